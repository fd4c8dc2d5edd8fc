import PyProof.Rows.All
import Wide.All
import OpenK.AllK
import Wide.FinOn
import HandS.ForMost
import KE.GoesEnum
import HandS.TupMul
import HandS.TupLe
import KE.SortData
import HandS.Strs
import HandS.SetFor
import PyProof.DictCompW
import PyProof.CompIC
import KE.KDictCopyH
import KE.KDictLaw
import HandS.IsInst
import HandS.Conv
import HandS.Star
import HandS.Style
import HandS.TupAny
import PySem.Challenge.RW_mexrooms_k37_whole_witnesses
section MxA_
set_option Elab.async false
set_option linter.all false
set_option maxRecDepth 100000
set_option maxHeartbeats 4000000
/-! enumerate(t), t a tuple, over the hand layer -/
namespace Mx
open PySem PySem.Spec PyProof.Rows L2
section
variable {prog : Program} {w : World} {A : Around} {E : Value → Shared → Prop} {s : Shared}
/-- the call with one argument, over anything whose iterator is one new object -/
theorem enumOne_meets {v : Value} {o : Obj} {G : Heap → Prop} (B : Begins v o G) :
    Meets (Builtin.«enumerate.__new__» ⟨[.type "enumerate", v], []⟩) (fun _ R s => G s.heap ∧
      R (.ok (.ret (.ref (s.heap.push o).objs.size)))
        { s with heap := (s.heap.push o).push { cls := .type "enumerate", data := .fields #[.none, .bool false, .ref s.heap.objs.size, rawInt 0, .none, .none] } }) :=
  .of_wp fun prog w A R s h => by
    obtain ⟨hp, g, d, tk, os⟩ := s
    obtain ⟨h1, h⟩ := h
    have hsub := sub_enumerate
    have start : ∀ {A' : Around} {E' : Value → Shared → Prop} {Q : Value → Shared → Prop}, Q (.ref hp.objs.size) ⟨hp.push o, g, d, tk, os⟩ →
        wpAny (model prog w) A' (pyIter v) Q E' ⟨hp, g, d, tk, os⟩ := fun q => B.iter prog w _ _ ⟨hp, g, d, tk, os⟩ _ h1 q
    wp_walk using start
    refine wpAny_stack_any fun st => wpAny_pure ?_
    split
    · rename_i c _ _ _ _ _
      cases (c == Value.type "enumerate") <;> (wp_walk using start; exact ⟨_, rfl, h⟩)
    · wp_walk using start
      exact ⟨_, rfl, h⟩

theorem call_enumOne {v : Value} {o : Obj} {G : Heap → Prop} {Q : Value → Shared → Prop} (B : Begins v o G) (h1 : G s.heap)
    (h : ∀ h', IsEnum h' (s.heap.objs.size + 1) s.heap.objs.size 0 .none → h'.get? s.heap.objs.size = some o →
      (∀ b ob, s.heap.get? b = some ob → h'.get? b = some ob) → Q (.ref (s.heap.objs.size + 1)) { s with heap := h' }) :
    wpAny (model prog w) A (call (.type "enumerate") [v]) Q E s := by
  refine callType_new F.called_enumerate (by decide) (F.typeCall_enumerate_1 _) (F.newCall_enumerate_1 _)
    (fun obj => F.args_object_init_2 obj _) F.entry_enumerate_new (enumOne_meets B) ⟨h1, ?_⟩
  have hz : (s.heap.push o).objs.size = s.heap.objs.size + 1 := Heap.size_push ..
  have he := Heap.get?_push_size (s.heap.push o)
    (o := { cls := .type "enumerate", data := .fields #[.none, .bool false, .ref s.heap.objs.size, rawInt 0, .none, .none] }) rfl
  show _ ∧ _
  rw [hz] at he ⊢
  exact ⟨⟨_, he, rfl⟩, h _ he (Heap.get?_push_of_some _ (Heap.get?_push_size _ B.free))
    fun b ob x => Heap.get?_push_of_some _ (Heap.get?_push_of_some _ x)⟩
end

/-- the tuple at a, each item in a new pair -/
def IteT (K : PySem.W.Frag) (a : Addr) : It where
  go := fun i H => ∃ (xs : List V) (x : V), SqT K H a xs ∧ xs[i]? = some x
  yld := fun i H v H' => ∃ T x, v = .ref T ∧ H T = none ∧ H' = upd H T (.tup [.int (i : Nat), x]) ∧ ∀ xs, SqT K H a xs → xs[i]? = some x
  stop := fun i H => ∃ xs : List V, SqT K H a xs ∧ xs.length = i

theorem enumT_turn {P : Program} {w : World} {K : PySem.W.Frag} {elts : List Expr} {kk : Nat} {tpos : Pos} (a e it : Addr) :
    Turn P w K (.Tuple elts kk tpos) (IteT K a) [e, it] e
      (fun i h => (∃ old, IsEnum h e it ((i : Nat) : Int) old) ∧ h.IsTupleIter it a i ∧ e ≠ it ∧ a ≠ it ∧ e ≠ a) where
  mem := by simp
  obj := fun i h st b hb => by
    obtain ⟨⟨old, he⟩, ⟨o, ho, _, hd⟩, _⟩ := st
    rcases (show b = e ∨ b = it by simpa using hb) with rfl | rfl
    · exact ⟨_, he, fun v q => nomatch q⟩
    · exact ⟨o, ho, fun v q => by rw [hd] at q; cases q⟩
  keep := fun i h h' st k => by
    obtain ⟨⟨old, he⟩, hi, ne⟩ := st
    exact ⟨⟨old, k e (by simp) _ he⟩, hi.at fun o q => k it (by simp) o q, ne⟩
  item := by
    intro X hP hw hK hc i pins s σ H E I hf st hg
    subst hP hw hK
    obtain ⟨⟨old, he⟩, hit, nei, nai, nea⟩ := st
    obtain ⟨xs, x, hq, hx⟩ := hg
    obtain ⟨its, rv, p, hz⟩ := I.tuple hq
    obtain ⟨u, hu, ru⟩ := rv.get hx
    have lt_e : e < s.heap.objs.size := Heap.lt_size he
    have lt_i : it < s.heap.objs.size := by obtain ⟨_, q, _⟩ := hit; exact Heap.lt_size q
    have hlt : i < its.toArray.size := by
      rw [List.size_toArray]
      exact (List.getElem?_eq_some_iff.mp hu).1
    have D := Draws.tuple (prog := X.prog) (w := X.w) (A := X.A.in1) (by simpa using I.ok.hd hc) it a nai its.toArray
    refine wpAny_pyNext_enum_itemD D he ⟨hit, p⟩ hlt nei (by simp [nei, nea]) fun y h' tk hy ho st' hT hsz hk => ?_
    have ey : y = u := by
      have hy2 : its[i]? = some y := by simpa using hy
      rw [hu] at hy2
      exact (Option.some.inj hy2).symm
    subst ey
    refine ⟨_, rfl, wpAny_letOwnedTupleGo_enum (s := { s with heap := h', toks := tk + 1 }) ho fun h'' he' sb => ?_⟩
    have hT2 : h''.get? s.heap.objs.size = some { cls := .type "tuple", data := .seq #[.int i tk, y] } := (sb.2 _ (Nat.ne_of_gt lt_e)).trans hT
    have new : ObjOk X.prog X.w (upd H s.heap.objs.size (.tup [.int (i : Nat), x])) h'' s.heap.objs.size (.tup [.int (i : Nat), x]) :=
      ⟨by show 2 ≤ sizeLine; decide, [.int i tk, y], .cons ⟨_, rfl⟩ (.cons ru .nil), ⟨_, hT2, rfl, _, rfl⟩⟩
    have keepO : ∀ b ob, b ∉ [e, it] → s.heap.get? b = some ob → h''.get? b = some ob := fun b ob hb q => by
      have n1 : b ≠ e := fun z => hb (by simp [z])
      have n2 : b ≠ it := fun z => hb (by simp [z])
      exact (sb.2 b n1).trans (hk b ob n1 n2 q)
    have I1 : Inv X pins σ (upd H s.heap.objs.size (.tup [.int (i : Nat), x])) { s with heap := h'', toks := tk + 1 } :=
      I.turnedNew (ch := [e, it]) keepO hf (Nat.le_refl _) new
    refine ⟨.ref s.heap.objs.size, _, I1, rfl, ⟨_, x, rfl, I.hok.fresh (Nat.le_refl _), rfl, fun ys hy => ?_⟩, ⟨⟨y, ?_⟩, ?_, nei, nai, nea⟩, fun b hb => ?_⟩
    · rw [I.tuple_inj hy hq]
      exact hx
    · rw [show ((i + 1 : Nat) : Int) = (i : Int) + 1 by omega]
      exact he'
    · exact st'.1.at fun o q => (sb.2 it (Ne.symm nei)).trans q
    · have hb' : b < s.heap.objs.size := by
        rcases (show b = e ∨ b = it by simpa using hb) with rfl | rfl
        · exact lt_e
        · exact lt_i
      rw [upd_ne (Nat.ne_of_lt hb')]
      exact (hf b hb).1
  done := by
    intro X hP hw hK hc i pins s σ H E I hf st hg
    subst hP hw hK
    obtain ⟨⟨old, he⟩, hit, nei, nai, nea⟩ := st
    obtain ⟨xs, hq, hx⟩ := hg
    obtain ⟨its, rv, p, hz⟩ := I.tuple hq
    obtain ⟨f0, f1, f2, f3, f4, f5⟩ := hf it (by simp)
    have en : its.toArray.size = i := by
      rw [List.size_toArray, ← rv.length, hx]
    have D := Draws.tuple (prog := X.prog) (w := X.w) (A := X.A.in1) (by simpa using I.ok.hd hc) it a nai its.toArray
    refine wpAny_pyNext_enum_endD D he (by rw [en]; exact ⟨hit, p⟩) fun h' eb => ⟨rfl, ?_⟩
    exact I.turned (t' := s.toks) (fun b o hb q => eb b o hb q) f0 f1 f3 f4 f5
  self := fun A i s Q E st h => by
    obtain ⟨⟨_, he⟩, _⟩ := st
    exact wpAny_pyIter_enum he h

def iEnumT (K : PySem.W.Frag) (ta : TA) : TI := fun σ H R => ta σ H fun vs H1 => ∃ a xs, vs = [.ref a] ∧ SqT K H1 a xs ∧ R (IteT K a) H1
theorem pi_enumT {X : Cx} {e : Expr} {ta : TA} {p pos tpos : Pos} {elts : List Expr} {kk : Nat} (hg : Gl X "enumerate") (hm : X.mg "enumerate" = none) (ha : PA X [e] ta)
    (hs : starEach [e] X.env = [(false, eval e X.env)] := by rfl) : PI X (.Tuple elts kk tpos) (.Call (.Name "enumerate" p) [e] [] pos) (iEnumT X.K ta) := by
  refine ⟨fun pins s σ H R I h => ?_⟩
  refine Call_ (ld_blt I hg hm boot_enumerate (PyProof.Rows.callWith_type1 (thn (ha.run pos pins s σ H _ I h) fun us s1 h1 => ?_) hs rfl))
  obtain ⟨vs, H1, I1, r1, a, xs, ex, hq, q⟩ := h1
  subst ex
  cases r1 with
  | cons r rr =>
    cases rr
    cases r
    obtain ⟨its, rv, p', hz⟩ := I1.tuple hq
    have hal : a < s1.heap.objs.size := by obtain ⟨o, e1, _⟩ := p'; exact Heap.lt_size e1
    refine call_enumOne (begins_tuple a its.toArray) (show s1.heap.IsTuple a its.toArray from p') fun h' he ho hk => wpAny_pyIter_enum he ?_
    have I2 : Inv X pins σ H1 { s1 with heap := h' } := I1.kept (t' := s1.toks) hk
    refine ⟨s1.heap.objs.size + 1, [s1.heap.objs.size + 1, s1.heap.objs.size], _, _, H1, rfl, I2, enumT_turn a (s1.heap.objs.size + 1) s1.heap.objs.size,
      ⟨⟨.none, he⟩, ⟨_, ho, rfl, rfl⟩, Nat.succ_ne_self _, Nat.ne_of_lt hal, Nat.ne_of_gt (Nat.lt_succ_of_lt hal)⟩, fun b hb => ?_, q⟩
    have hle : s1.heap.objs.size ≤ b := by
      rcases (show b = s1.heap.objs.size + 1 ∨ b = s1.heap.objs.size by simpa using hb) with z | z
      · exact z ▸ Nat.le_succ _
      · exact z ▸ Nat.le_refl _
    exact I1.fpOk hle (I1.hok.fresh hle)

/-- for i, x in enumerate(t) -/
theorem for_enumT {K : PySem.W.Frag} {a : Addr} {xs : List V} {g : TG} {tb : TS} {D : Ends} {σ : L2.St} {H : Hp} (Pv : Nat → L2.St → Hp → Prop) (h0 : Pv 0 σ H)
    (hl : ∀ i σ H, i ≤ xs.length → Pv i σ H → SqT K H a xs)
    (hs : ∀ i x T σ H, xs[i]? = some x → Pv i σ H → H T = none →
      g (.ref T) σ (upd H T (.tup [.int (i : Nat), x])) fun σ2 H2 => tb { D with nx := Pv (i + 1), ct := Pv (i + 1), bk := D.nx } σ2 H2) (hd : ∀ σ H, Pv xs.length σ H → D.nx σ H) :
    ∃ W : Nat → Nat → L2.St → Hp → Prop, (∃ m, W 0 m σ H) ∧ ∀ i m σ H, W i m σ H →
      ((IteT K a).stop i H ∧ D.nx σ H) ∨ ((IteT K a).go i H ∧ ∃ N : L2.St → Hp → Prop, (∀ σ' H', N σ' H' → ∃ m', m' < m ∧ W (i + 1) m' σ' H') ∧
        ∀ x H', (IteT K a).yld i H x H' → g x σ H' fun σ2 H2 => tb { D with nx := N, ct := N, bk := D.nx } σ2 H2) := by
  refine ⟨fun i m σ H => m + i = xs.length ∧ Pv i σ H, ⟨xs.length, rfl, h0⟩, ?_⟩
  rintro i m σ H ⟨em, p⟩
  have q := hl i σ H (by omega) p
  rcases Nat.lt_or_ge i xs.length with hlt | hge
  · refine .inr ⟨⟨xs, xs[i], q, List.getElem?_eq_getElem hlt⟩, Pv (i + 1), fun σ' H' p' => ⟨m - 1, by omega, by omega, p'⟩, fun v H' y => ?_⟩
    obtain ⟨T, x, rfl, nT, rfl, f⟩ := y
    exact hs i x T σ H (f xs q) p nT
  · obtain rfl : i = xs.length := by omega
    exact .inl ⟨⟨xs, q, rfl⟩, hd σ H p⟩
/-- [.. for i, x in enumerate(t)] -/
theorem lc_enumT {K : PySem.W.Frag} {a : Addr} {xs : List V} {g : TG} {tt : TT} {te : TE} {vs : List Nat} {σ : L2.St} {H1 : Hp} {D : Addr} {Qd : Hp → Prop} (Pv : Nat → Hp → Prop)
    (h0 : Pv 0 (upd H1 D (.lst []))) (hl : ∀ i H, i ≤ xs.length → Pv i H → SqT K H a xs)
    (hs : ∀ i x T H, xs[i]? = some x → Pv i H → H T = none → g (.ref T) (wipe σ vs) (upd H T (.tup [.int (i : Nat), x])) fun σ2 H2 => wipe σ2 vs = wipe σ vs ∧ tt σ2 H2 fun b H3 =>
      if b = true then te σ2 H3 fun y H4 => ∃ acc, H4 D = some (.lst acc) ∧ acc.length < sizeLine ∧ Pv (i + 1) (upd H4 D (.lst (acc ++ [y]))) else Pv (i + 1) H3)
    (hd : ∀ H, Pv xs.length H → Qd H) :
    ∃ W : Nat → Nat → Hp → Prop, (∃ m, W 0 m (upd H1 D (.lst []))) ∧ ∀ i m H, W i m H →
      ((IteT K a).stop i H ∧ Qd H) ∨ ((IteT K a).go i H ∧ ∃ Nx : Hp → Prop, (∀ H', Nx H' → ∃ m', m' < m ∧ W (i + 1) m' H') ∧
        ∀ x H', (IteT K a).yld i H x H' → g x (wipe σ vs) H' fun σ2 H2 => wipe σ2 vs = wipe σ vs ∧ tt σ2 H2 fun b H3 =>
          if b = true then te σ2 H3 fun y H4 => ∃ acc, H4 D = some (.lst acc) ∧ acc.length < sizeLine ∧ Nx (upd H4 D (.lst (acc ++ [y]))) else Nx H3) := by
  refine ⟨fun i m H => m + i = xs.length ∧ Pv i H, ⟨xs.length, rfl, h0⟩, ?_⟩
  rintro i m H ⟨em, p⟩
  have q := hl i H (by omega) p
  rcases Nat.lt_or_ge i xs.length with hlt | hge
  · refine .inr ⟨⟨xs, xs[i], q, List.getElem?_eq_getElem hlt⟩, Pv (i + 1), fun H' p' => ⟨m - 1, by omega, by omega, p'⟩, fun v H' y => ?_⟩
    obtain ⟨T, x, rfl, nT, rfl, f⟩ := y
    exact hs i x T H (f xs q) p nT
  · obtain rfl : i = xs.length := by omega
    exact .inl ⟨⟨xs, q, rfl⟩, hd H p⟩
end Mx
end MxA_
section MxB_
set_option Elab.async false
set_option linter.all false
set_option maxRecDepth 100000
set_option maxHeartbeats 4000000
/-! sorted(list of tuples of ints), t * 1, t >= u, over the hand layer -/
namespace Mx
open PySem PySem.Spec PyProof.Rows L2
abbrev encT (b : Addr × List Int) : PyData := .tuple (b.2.map .int)
theorem readsInts {h : Heap} : ∀ {ns : List Int} {us : List Value}, Vals (ns.map V.int) us → ∃ as, ReadsAll h us (ns.map PyData.int) as
  | [], _, .nil => ⟨_, .nil⟩
  | n :: ns, _, .cons r t => by
    obtain ⟨k, rfl⟩ := r
    obtain ⟨as, q⟩ := readsInts (h := h) t
    exact ⟨_, .cons (.int _ _) q⟩
/-- the list's items: references to tuples of ints -/
abbrev refsOf (bs : List (Addr × List Int)) : List V := bs.map fun b => V.ref b.1
theorem each_refs : ∀ {bs : List (Addr × List Int)} {us : List Value}, Vals (refsOf bs) us → PySem.W.EachIs (fun v b => v = Value.ref b.1) us bs
  | [], _, .nil => .nil
  | b :: bs, _, .cons r t => .cons r (each_refs t)
theorem refs_each : ∀ {bs : List (Addr × List Int)} {us : List Value}, PySem.W.EachIs (fun v b => v = Value.ref b.1) us bs → Vals (refsOf bs) us
  | [], _, .nil => .nil
  | b :: bs, _, .cons r t => .cons r (refs_each t)
theorem each_with {α β : Type} {R S : α → β → Prop} {C : β → Prop} (f : ∀ a b, C b → R a b → S a b) : ∀ {as : List α} {bs : List β}, (∀ b ∈ bs, C b) → PySem.W.EachIs R as bs → PySem.W.EachIs S as bs
  | _, _, _, .nil => .nil
  | _, _, h, .cons r t => .cons (f _ _ (h _ List.mem_cons_self) r) (each_with f (fun b hb => h b (List.mem_cons_of_mem _ hb)) t)
theorem alike_tups (xs ys : List Int) : PySem.W.alike (.tuple (xs.map .int)) (.tuple (ys.map .int)) = true := by
  rw [PySem.W.alike, PySem.W.alike_ints]
def rSortT (K : PySem.W.Frag) : List V → Hp → VK → Prop := fun vs H Q => ∃ (a : Addr) (bs : List (Addr × List Int)), vs = [V.ref a] ∧ SqL K H a (refsOf bs) ∧
  (∀ b ∈ bs, H b.1 = some (.tup (b.2.map V.int)) ∧ b.2 ≠ []) ∧
  ∀ (out : List (Addr × List Int)) (p : Addr), out.Perm bs → H p = none → Q (.ref p) (upd H p (.lst (refsOf out)))
section
variable {X : Cx}
theorem cr_sortT (hu : X.A.units + 64 < cLine) : CallR X (.builtin "sorted") (rSortT X.K) := by
  intro pins s σ H vs us Q I r h
  obtain ⟨a, bs, rfl, hs, hb, q⟩ := h
  obtain ⟨its, rv, hl, hz⟩ := I.list hs
  rw [Vals.ref1 r]
  have hz2 : bs.length ≤ sizeLine := by
    rw [List.length_map] at hz
    exact hz
  have e0 := each_refs rv
  refine PySem.W.sorted_data (enc := encT) hl.isList e0 (each_with (C := fun b => H b.1 = some (.tup (b.2.map V.int)) ∧ b.2 ≠ []) (fun v b hC ev => ?_) hb e0) ?_ (.inl ?_) hz2 (fun b hbm => ?_) fun out hlen ho => ?_
  · subst ev
    obtain ⟨_, ws, rw', o, ho, hc, n, hd⟩ := I.hok b.1 _ hC.1
    obtain ⟨as, ra⟩ := readsInts (h := s.heap) rw'
    exact ⟨_, .tuple ho hc hd (by simpa using ra)⟩
  · intro d hd d' hd'
    obtain ⟨b, _, rfl⟩ := List.mem_map.mp hd
    obtain ⟨b', _, rfl⟩ := List.mem_map.mp hd'
    exact alike_tups _ _
  · intro d hd
    obtain ⟨b, hbm, rfl⟩ := List.mem_map.mp hd
    obtain ⟨_, hne⟩ := hb b hbm
    obtain ⟨ba, bl⟩ := b
    cases bl with
    | nil => exact absurd rfl hne
    | cons x r => exact ⟨_, _, rfl⟩
  · have e1 : (encT b).depth = 1 := by
      show PyData.depth (.tuple (b.2.map .int)) = 1
      rw [PyData.depth, PySem.W.depth_ints]
    rw [e1]
    omega
  · obtain ⟨ep, he'⟩ := PyProof.Rows.sortedAll_at s.heap its out.toArray
    have hp : (bs.mergeSort (PySem.W.dataLe false encT)).Perm bs := List.mergeSort_perm ..
    refine ⟨.ref _, upd H (s.heap.objs.size + 1) (.lst (refsOf (bs.mergeSort (PySem.W.dataLe false encT)))),
      I.laid (t' := s.toks) (fun _ _ => PyProof.Rows.sortedAll_old) (Nat.le_succ _) ⟨?_, out, ep, refs_each ho, he'⟩, rfl, q _ _ hp (I.hok.fresh (Nat.le_succ _))⟩
    show (refsOf _).length ≤ sizeLine
    rw [List.length_map, hp.length_eq]
    exact hz2

/-! ### t >= u -/
def lexGe : List Int → List Int → Bool := fun ns ms => Ob.lexAt (fun j => decide (ns.getD j 0 = ms.getD j 0)) (fun j => decide (ns.getD j 0 ≥ ms.getD j 0)) (decide (ns.length ≥ ms.length)) 0 (min ns.length ms.length)
def rGeT (K : PySem.W.Frag) : R2 := fun x y H Q => ∃ (a b : Addr) (ns ms : List Int), x = .ref a ∧ y = .ref b ∧ SqT K H a (ns.map V.int) ∧ SqT K H b (ms.map V.int) ∧ Q (.bl (lexGe ns ms)) H
theorem op_geT (hu : X.A.units < cLine) : OpR X (compareOp .GtE) (rGeT X.K) := by
  intro pins s σ H x y v u Q I rx ry h
  obtain ⟨a, b, ns, ms, rfl, rfl, ha, hb, q⟩ := h
  cases rx
  cases ry
  obtain ⟨us, r1, p1, _⟩ := I.tuple ha
  obtain ⟨ws, r2, p2, _⟩ := I.tuple hb
  have i1 : IntsAre us ns := Vals.ints r1
  have i2 : IntsAre ws ms := Vals.ints r2
  have s1 : us.toArray.size = ns.length := by rw [List.size_toArray, i1.length]
  have s2 : ws.toArray.size = ms.length := by rw [List.size_toArray, i2.length]
  have g1 : ∀ j (hj : j < us.toArray.size), ∃ t, us.toArray[j] = .int (ns.getD j 0) t := fun j hj =>
    PyProof.Rows.IntsAre.int_at i1 _ _ (by simp at hj; simp [hj])
  have g2 : ∀ j (hj : j < ws.toArray.size), ∃ t, ws.toArray[j] = .int (ms.getD j 0) t := fun j hj =>
    PyProof.Rows.IntsAre.int_at i2 _ _ (by simp at hj; simp [hj])
  have R := Ob.RcOp.tuples_ge (A := X.A) (s := s) (e := fun j => ns.getD j 0 == ms.getD j 0) (r := fun j => decide (ns.getD j 0 ≥ ms.getD j 0)) p1 p2 hu
    (fun j h1 h2 => by
      obtain ⟨t, et⟩ := g1 j h1
      obtain ⟨t', et'⟩ := g2 j h2
      rw [et, et']
      exact SeqAt.EqAt.int_int _ _ _ _)
    (fun j h1 h2 _ => by
      obtain ⟨t, et⟩ := g1 j h1
      obtain ⟨t', et'⟩ := g2 j h2
      rw [et, et']
      exact Ob.RcOp.ge_int _ _ _ _)
  rw [s1, s2] at R
  have ee : (fun j => ns.getD j 0 == ms.getD j 0) = fun j => decide (ns.getD j 0 = ms.getD j 0) := by
    funext j
    exact Bool.beq_eq_decide_eq _ _
  rw [ee] at R
  have z : wpAny (model X.prog X.w) X.A (compareOp .GtE (.ref a) (.ref b)) (EP X pins σ Q) X.xe s := R X.prog X.w X.xe (EP X pins σ Q) ⟨.bl (lexGe ns ms), H, I, rfl, q⟩
  exact z
end
end Mx
end MxB_
section MxC_
set_option Elab.async false
set_option linter.all false
set_option maxRecDepth 100000
set_option maxHeartbeats 4000000
/-! t * k, 1 ≤ k: for 1 it is t itself -/
namespace Mx
open PySem PySem.Spec PyProof.Rows L2
open PySem.AutoSeq1 (wpAny_loadPart')
theorem mulOne_meets (l : Addr) (items : Array Value) (n : Nat) (dd : Option Addr) (sl : Array (Option Value)) (u : Tok) :
    Meets (Builtin.«tuple.__mul__» ⟨[.ref l, .int 1 u], []⟩) (fun _ R s => s.heap.get? l = some { cls := .type "tuple", dict := dd, data := .seq items n, slots := sl } ∧ R (.ok (.ret (Value.ref l))) s) :=
  .of_wp fun prog w A R s h => by
    obtain ⟨hp, g, d, tk, os⟩ := s
    obtain ⟨hl, h⟩ := h
    have f1 := AutoSeq1.idx_int
    have c1 : (items.isEmpty || ((1 : Int) == 1)) = true := by simp
    wp_walk using wpAny_loadPart' hl
    exact ⟨_, rfl, h⟩
def rMulT (K : PySem.W.Frag) : R2 := fun x y H Q => ∃ (l : Addr) (k : Nat) (x0 : V), x = .ref l ∧ y = .int k ∧ H l = some (.tup [x0]) ∧ 1 ≤ k ∧ k ≤ 1000 ∧
  ∀ p H', (∀ b o, H b = some o → H' b = some o) → H' p = some (.tup (List.replicate k x0)) → Q (.ref p) H'
section
variable {X : Cx}
theorem op_mulOne : OpR X (binaryOp .Mult) (fun x y H Q => ∃ l xs, x = .ref l ∧ y = .int 1 ∧ SqT X.K H l xs ∧ Q (.ref l) H) := by
  intro pins s σ H x y v u Q I rx ry h
  obtain ⟨l, xs, rfl, rfl, hT, q⟩ := h
  cases rx
  obtain ⟨t, rfl⟩ := ry
  obtain ⟨its, r, ⟨⟨cls, dd, data, sl⟩, ho, hc, n, hd⟩, hs⟩ := I.tuple hT
  simp only at hc hd
  subst hc hd
  exact wpAny_binaryOp_repeat_ref (T := "tuple") (U := "int") (by decide) ⟨_, ho, rfl⟩ (fun s' => typeIs_int s' 1 t) noFill_tuple_mul F.fills_int_mul F.slot_int_rmul repeat_tuple F.slot_int_index.lookup
    (call_meets F.slot_int_rmul (typeIs_int s 1 t) F.entry_int_rmul (F.args_int_rmul_2 _ _) (int_rmul_tuple 1 t l its.toArray n dd sl)
      ⟨ho, rfl, ⟨_, ho, rfl⟩, call_meets F.slot_tuple_mul ⟨_, ho, rfl⟩ F.entry_tuple_mul (F.args_tuple_mul_2 _ _) (mulOne_meets l its.toArray n dd sl t)
        ⟨ho, ⟨.ref l, H, I, rfl, q⟩⟩⟩)
theorem op_mulT : OpR X (binaryOp .Mult) (rMulT X.K) := by
  intro pins s σ H x y v u Q I rx ry h
  obtain ⟨l, k, x0, ex, ey, hT, h1, h2, q⟩ := h
  by_cases e1 : k = 1
  · subst e1
    exact op_mulOne pins s σ H x y v u Q I rx ry ⟨l, [x0], ex, ey, .inl (.inl hT), q l H (fun _ _ e => e) hT⟩
  · refine op_repT pins s σ H x y v u Q I rx ry ⟨l, k, [x0], ex, ey, .inl (.inl hT), by simp, by omega, by omega, by simp, fun p np => q p _ (fun b o e => ?_) ?_⟩
    · rw [upd_ne (ne_of_none e np)]
      exact e
    · rw [upd_same]
      simp
end
end Mx
end MxC_
section MxS_
set_option Elab.async false
set_option linter.all false
set_option maxRecDepth 100000
set_option maxHeartbeats 8000000
/-! set(xs), xs a list of small ints, however long -/
namespace Mx
open PySem PySem.Spec PyProof.Rows L2
theorem nodup_small {l : List Int} {m : Nat} (nd : l.Nodup) (h : ∀ z ∈ l, 0 ≤ z ∧ z < m) : l.length ≤ m := by
  induction m generalizing l with
  | zero =>
    cases l with
    | nil => exact Nat.le_refl _
    | cons a r =>
      have q := h a List.mem_cons_self
      omega
  | succ m ih =>
    have e := ih (l := l.filter fun z => decide (z ≠ (m : Int))) (nd.filter _) fun z hz => by
      obtain ⟨h1, h2⟩ := List.mem_filter.mp hz
      have q := h z h1
      have h3 := of_decide_eq_true h2
      omega
    by_cases hm : (m : Int) ∈ l
    · have e2 : l.length ≤ (l.filter fun z => decide (z ≠ (m : Int))).length + 1 := by
        have e3 : (l.filter fun z => decide (z ≠ (m : Int))) = l.erase (m : Int) := by
          rw [nd.erase_eq_filter]
          congr 1
          funext z
          by_cases q : z = (m : Int) <;> simp [q]
        rw [e3, List.length_erase_of_mem hm]
        omega
      omega
    · have e3 : (l.filter fun z => decide (z ≠ (m : Int))) = l := List.filter_eq_self.mpr fun z hz => decide_eq_true fun q => hm (q ▸ hz)
      rw [e3] at e
      omega
theorem setR_few {w : World} {h : Heap} {S : Addr} {l : List Int} {c : Nat} (R : SetR w h S (fun j => decide (j ∈ l)) c) (hl : ∀ z ∈ l, 0 ≤ z ∧ z < (60 : Nat)) : c ≤ 60 := by
  obtain ⟨o, es, ep, t, _, _, _, _, nd, hm, _, _, hn, _⟩ := R
  have q := nodup_small nd (m := 60) fun z hz => hl z (of_decide_eq_true ((hm z).mpr hz))
  rw [List.length_map] at q
  rw [← hn]
  exact q

section
variable {P : Program} {w : World} {A : Around} {E : Value → Shared → Prop} {s : Shared}
abbrev fewOf (ns : List Int) (i : Nat) : Int → Bool := fun j => decide (j ∈ ns.take i)
/-- the loop over the list: the set holds what has been met -/
theorem few_loop {I : Addr} {fp wr : List Addr} {G : Array GenState → Array GenState → Prop} {Pv : Nat → Value → Prop} {St : Nat → Shared → Prop} {R : Result → Shared → Prop} (ns : List Int)
    (W : WalksS P w A.in1 I fp wr G ns.length Pv St) (S : Addr) (hS : S ∉ fp) (few : ∀ z ∈ ns, 0 ≤ z ∧ z < (60 : Nat)) (hval : ∀ i v, Pv i v → ∃ k t, ns[i]? = some k ∧ v = .int k t) :
    ∀ (left i : Nat) (s : Shared), left + i = ns.length → St i s → (∃ c, SetR w s.heap S (fewOf ns i) c) →
      (∀ s' c, Moved (S :: wr) G s s' → SetR w s'.heap S (fun j => decide (j ∈ ns)) c → R (.ok (.ret .none)) s') →
      codeAny (model P w) A (.builtin "set.update.loop" ⟨[.ref S, .ref I], []⟩) R s := by
  have nw : S ∉ wr := fun z => hS (W.sub _ z)
  have sub1 : ∀ b ∈ wr, b ∈ S :: wr := fun b z => List.mem_cons_of_mem _ z
  intro left
  induction left with
  | zero =>
    intro i s hi st ⟨c, hc⟩ fin
    obtain rfl : i = ns.length := by omega
    refine codeAny_builtin F.entry_set_update_loop ?_
    rw [Around.under_plainId F.plain_set_update_loop _]
    show wpAny _ A.in1 (pyNext (.ref I) >>= _) _ _ s
    refine wpAny_bind (W.done s _ _ st fun s' mv => ?_)
    show wpAny _ A.in1 (ret Value.none) _ _ s'
    refine wpAny_pure (fin s' c (mv.mono sub1) ?_)
    have c2 : SetR w s'.heap S (fewOf ns ns.length) c := hc.at fun o e => mv.heap S o nw e
    exact c2.congr fun j => by rw [fewOf, List.take_length]
  | succ left ih =>
    intro i s hi st ⟨c, hc⟩ fin
    have lt : i < ns.length := by omega
    refine codeAny_builtin F.entry_set_update_loop ?_
    rw [Around.under_plainId F.plain_set_update_loop _]
    show wpAny _ A.in1 (pyNext (.ref I) >>= _) _ _ s
    refine wpAny_bind (W.item i s _ _ lt st fun v s' hv st' mv => ?_)
    obtain ⟨z, t, hz, rfl⟩ := hval i v hv
    have c2 : SetR w s'.heap S (fewOf ns i) c := hc.at fun o e => mv.heap S o nw e
    have room : c ≤ 60 := setR_few c2 fun y hy => few y (List.mem_of_mem_take hy)
    show wpAny _ A.in1 (holding [Value.int z t] (setAdd S (.int z t)) >>= _) _ _ s'
    refine wpAny_bind (wpAny_holding ?_)
    unfold setAdd
    refine wpAny_holding (wpAny_bind ((intKind P w).pyHash (k := z) (intKind_is _ _ _ _) ?_))
    refine setR_add_hashed (s := { s' with toks := s'.toks + 1 }) c2 (by unfold scanBound; omega) fun h' sb c3 => ?_
    have c4 := c3.congr (S' := fewOf ns (i + 1)) fun j => by
      show decide (j ∈ ns.take (i + 1)) = (decide (j ∈ ns.take i) || decide (j = z))
      rw [List.take_add_one, hz]
      simp [List.mem_append]
    refine wpAny_pure ⟨plainId_quiet F.plain_set_update_loop _, ih (i + 1) _ (by omega) ?_ ⟨_, c4⟩ fun s'' d mv2 hd => ?_⟩
    · refine W.frame _ s' _ _ st' (Nat.le_succ _) fun b hb o e => ?_
      have nb : b ≠ S := fun q => hS (q ▸ hb)
      exact (sb.2 b nb).trans e
    · refine fin s'' d (Moved.trans W.gtrans ((mv.mono sub1).then_heap (Nat.le_succ _) fun b o hb e => ?_) mv2) hd
      have nb : b ≠ S := fun q => hb (by rw [q]; exact List.mem_cons_self)
      exact (sb.2 b nb).trans e

theorem call_set_few {l : Addr} {items : Array Value} (ns : List Int) {Q : Value → Shared → Prop} (hh : A.handled = none) (hl : s.heap.IsList l items) (hit : IntsAre items.toList ns)
    (few : ∀ z ∈ ns, 0 ≤ z ∧ z < (60 : Nat))
    (h : ∀ (h' : Heap) (tk c : Nat), SetR w h' s.heap.objs.size (fun j => decide (j ∈ ns)) c → (∀ b o, s.heap.get? b = some o → h'.get? b = some o) → Q (.ref s.heap.objs.size) { s with heap := h', toks := tk }) :
    wpAny (model P w) A (call (.type "set") [.ref l]) Q E s := by
  have hn : items.size = ns.length := by
    have q := hit.length
    rwa [Array.length_toList] at q
  obtain ⟨cc, tl, hmro⟩ := F.called_set.mro
  have hmade := F.called_set.made
  have hsub := F.called_set.sub
  have h1 := F.called_set.notType
  have h2 := F.called_set.canCreate
  have hct := F.typeCall_set_1 (.ref l)
  refine wpAny_call (codeAny_of_tree ?_)
  show wpAny _ _ (callAny (.type "set") _) _ _ _
  refine wpAny_pure ⟨Code.quiet_builtin _ (by decide +kernel), codeAny_builtin F.entry_type_call ?_⟩
  rw [Around.under_plain (weight_type_call_type "set" [.ref l] []) rfl]
  repeat (any_goals (first | assumption | wp_step))
  generalize hob : ({ cls := .type "set", dict := none, data := .set #[] 0 (.fresh 0 0 (!w.params.followText "set-order")) } : Obj) = ob
  have obf : ob.isFreed = false := by subst hob; rfl
  have obc : ob.cls = .type "set" := by subst hob; rfl
  refine codeAny_mono (code_set_led1 (.ref l) (E := E) (Q₁ := fun r s₁ => r = .ref s.heap.objs.size ∧ s₁ = { s with heap := s.heap.push ob }) ⟨rfl, by rw [← hob]⟩) fun r s₁ hr => ?_
  cases r with
  | error e => exact hr
  | ok fl => cases fl with
    | ret r =>
      obtain ⟨rfl, rfl⟩ := hr
      have gS : (s.heap.push ob).get? s.heap.objs.size = some ob := Heap.get?_push_size _ obf
      have hT : Shared.TypeIs { s with heap := s.heap.push ob } (.ref s.heap.objs.size) "set" := ⟨_, gS, obc⟩
      have hli := F.called_set.init.lookup
      have hbi := F.called_set.init.bind (.ref s.heap.objs.size)
      repeat (any_goals (first | assumption | wp_step))
      let Done : Shared → Prop := fun s₂ => ∃ h' tk c, s₂ = { s with heap := h', toks := tk } ∧ SetR w h' s.heap.objs.size (fun j => decide (j ∈ ns)) c ∧ ∀ b o, s.heap.get? b = some o → h'.get? b = some o
      refine codeAny_mono (codeAny_call_builtin (R := wants (fun r s₂ => r = .none ∧ Done s₂) E) F.called_set.init.plain F.entry_set_init (check_set_init_1 hT ?_)) fun r₂ s₂ hr₂ => ?_
      · obtain ⟨⟨oc, od, dt, sl⟩, ho, hc, nl, hd⟩ := hl
        simp only at hc hd
        subst hc hd
        have ho' : (s.heap.push ob).get? l = some { cls := .type "list", dict := od, data := .seq items nl, slots := sl } := Heap.get?_push_of_some _ ho
        have n1 := F.sub_list_set
        have n2 := F.sub_list_frozenset
        have n3 : (Value.type "list" == Value.type "dict") = false := by decide
        have hl1 : (s.heap.push ob).IsList l items := ⟨_, ho', rfl, nl, rfl⟩
        subst hob
        unfold Builtin.«set.__init__» noKeywords Builtin.Frozenset.updateFrom
        generalize hPI : pyIter = PI
        wp_walk
        subst hPI
        generalize hob : ({ cls := .type "set", dict := none, data := .set #[] 0 (.fresh 0 0 (!w.params.followText "set-order")) } : Obj) = ob at gS ho' hl1 ⊢
        refine wpAny_pyIter_list hl1 ?_
        refine wpAny_bind (wpAny_runValue ?_)
        have ltl : l < s.heap.objs.size := Heap.lt_size ho
        have sz1 : (s.heap.push ob).objs.size = s.heap.objs.size + 1 := Heap.size_push ..
        have hh3 : A.in1.in1.in1.handled = none := by simp [hh]
        have ne1 : l ≠ (s.heap.push ob).objs.size := by
          rw [sz1]
          exact Nat.ne_of_lt (Nat.lt_succ_of_lt ltl)
        have nfp : s.heap.objs.size ∉ [(s.heap.push ob).objs.size, l] := by
          rw [sz1]
          simp only [List.mem_cons, List.not_mem_nil, or_false, not_or]
          exact ⟨Nat.ne_of_lt (Nat.lt_succ_self _), Nat.ne_of_gt ltl⟩
        have W := (Walks.list (prog := P) (w := w) hh3 _ l ne1 items).toS
        rw [hn] at W
        refine few_loop ns W s.heap.objs.size nfp few (fun i v hv => ?_) ns.length 0 _ rfl ⟨⟨_, Heap.get?_push_size _ rfl, rfl, rfl⟩, hl1.push _⟩ ⟨0, setR_new_at ?_⟩ fun s' c mv hc => ?_
        · have hi : i < ns.length := by
            rw [← hn]
            exact (Array.getElem?_eq_some_iff.mp hv).1
          obtain ⟨t, e⟩ := PyProof.Rows.IntsAre.int_at hit i v (by rw [Array.getElem?_toList]; exact hv)
          refine ⟨ns[i], t, List.getElem?_eq_getElem hi, ?_⟩
          rw [e, List.getD_eq_getElem?_getD, List.getElem?_eq_getElem hi]
          rfl
        · rw [hob]
          exact Heap.get?_push_of_some _ gS
        · obtain ⟨h', g2, d2, t2, o2⟩ := s'
          have eg : g2 = s.gens := mv.gens
          have ed : d2 = s.drawn := mv.drawn
          have eo : o2 = s.os := mv.os
          subst eg ed eo
          show wpAny _ _ _ _ _ _
          refine wpAny_pure ?_
          show wpAny _ _ (ret Value.none) _ _ _
          refine wpAny_pure ⟨rfl, h', t2, c, rfl, hc, fun b o e => ?_⟩
          have lb : b < s.heap.objs.size := Heap.lt_size e
          refine mv.heap b o ?_ (Heap.get?_push_of_some _ (Heap.get?_push_of_some _ e))
          rw [sz1]
          simp only [List.mem_cons, List.not_mem_nil, or_false, not_or]
          exact ⟨Nat.ne_of_lt lb, Nat.ne_of_lt (Nat.lt_succ_of_lt lb)⟩
      · cases r₂ with
        | error e => exact hr₂
        | ok f2 => cases f2 with
          | ret r =>
            obtain ⟨rfl, h', tk, c, rfl, hc, hk⟩ := hr₂
            repeat (any_goals (first | assumption | wp_step))
            exact h _ _ _ hc hk
          | _ => exact hr₂.elim
    | _ => exact hr.elim
end
section
variable {X : Cx}
def rSetFew (w : World) (K : PySem.W.Frag) : List V → Hp → VK → Prop := fun vs H Q => ∃ (a : Addr) (ns : List Int), vs = [V.ref a] ∧ SqL K H a (ns.map V.int) ∧ (∀ z ∈ ns, 0 ≤ z ∧ z < (60 : Nat)) ∧
  ∀ p c, c ≤ 60 → H p = none → Q (.ref p) (upd H p (SetO w p (fun j => decide (j ∈ ns)) c))
theorem cr_setFew (hc : X.calm = true) : CallR X (.type "set") (rSetFew X.w X.K) := by
  intro pins s σ H vs us Q I r h
  obtain ⟨a, ns, rfl, hs, few, q⟩ := h
  obtain ⟨its, rv, hl, hz⟩ := I.list hs
  rw [Vals.ref1 r]
  refine call_set_few ns (I.ok.hd hc) hl.isList (by simpa using rv.ints) few fun h' tk c R k => ?_
  have nn : H s.heap.objs.size = none := I.hok.fresh (Nat.le_refl _)
  exact ⟨.ref _, _, I.laid (t' := tk) k (Nat.le_refl _) (setO_new R), rfl, q _ c (setR_few R few) nn⟩
end
end Mx
end MxS_
section MxD_
set_option Elab.async false
set_option linter.all false
set_option maxRecDepth 100000
set_option maxHeartbeats 1000000
/-! {value[other]: True for other in row}: keys that are ints or None; k in it -/
namespace Mx
open PySem PySem.Spec PyProof.Rows L2
def leafV : V → Bool
  | .non => true
  | .int _ => true
  | _ => false
def leafOf : V → Leaf
  | .int i => .num i
  | _ => .none
theorem leaf_is {P : Program} {w : World} {y : V} {u : Value} (h : leafV y = true) (r : RelV y u) : (leafKind P w).is (leafOf y) u = true := by
  cases y with
  | non => cases (show u = Value.none from r); rfl
  | int i =>
    obtain ⟨t, rfl⟩ := (show ∃ t, u = Value.int i t from r)
    show Leaf.isOf (.num i) (.int i t) = true
    simp [Leaf.isOf]
  | _ => cases h
/-- a dict whose keys are those of ks -/
def LeafR (P : Program) (w : World) (p : Addr) (ks : List V) (h : Heap) : Prop :=
  (p == sysModules) = false ∧ ∃ kvs : List (Leaf × Value), h.DictOf (leafKind P w) p kvs ∧ ∀ k : Leaf, k ∈ kvs.map (·.1) ↔ ∃ y ∈ ks, leafOf y = k
def LeafO (P : Program) (w : World) (p : Addr) (ks : List V) : HO := .ext (LeafR P w p ks)
theorem leafO_ok {P : Program} {w : World} {H : Hp} {h : Heap} {p : Addr} {ks : List V} (R : LeafR P w p ks h) : ObjOk P w H h p (LeafO P w p ks) := by
  obtain ⟨n, kvs, d, f⟩ := id R
  obtain ⟨o, es, ep, ho, _⟩ := id d
  exact ⟨R, ⟨o, ho⟩, fun h1 h2 ⟨n', kvs', d', f'⟩ k => ⟨n', kvs', d'.at k, f'⟩⟩
theorem stored_all_keys {K : Type} [DecidableEq K] {FK : Value → K → Prop} {FV : Value → Value → Prop} {l : List Value} {kvs : List (K × Value)} (h : StoredAll FK FV l kvs)
    (fn : ∀ v k k', FK v k → FK v k' → k = k') : ∀ k, k ∈ kvs.map (·.1) ↔ ∃ v ∈ l, FK v k := by
  induction h with
  | nil => simp
  | @snoc l kvs v k y h1 hk hy ih =>
    intro k'
    have e : k' ∈ (stored kvs k y).map (·.1) ↔ k' ∈ kvs.map (·.1) ∨ k' = k := by
      rw [keys_stored]
      split
      · rename_i hm
        constructor
        · exact .inl
        · rintro (z | rfl)
          · exact z
          · exact hm
      · simp
    rw [e, ih]
    constructor
    · rintro (⟨u, hu, f⟩ | rfl)
      · exact ⟨u, List.mem_append_left _ hu, f⟩
      · exact ⟨v, List.mem_append_right _ (List.mem_singleton.mpr rfl), hk⟩
    · rintro ⟨u, hu, f⟩
      rcases List.mem_append.mp hu with z | z
      · exact .inl ⟨u, z, f⟩
      · rw [List.mem_singleton.mp z] at f
        exact .inr (fn _ _ _ f hk)
section
variable {X : Cx}
def tLeaf (P : Program) (w : World) (K : PySem.W.Frag) (iv : Nat) (ti : TE) : TE := fun σ H Q => ∃ (a : Addr) (xs : List V), σ[iv]? = some (some (.ref a)) ∧ ti σ H fun x H1 => ∃ (r : Addr) (row : List Nat),
  x = .ref r ∧ SqL K H1 r (row.map fun (k : Nat) => V.int k) ∧ SqT K H1 a xs ∧ (∀ k ∈ row, ∃ y, xs[k]? = some y ∧ leafV y = true) ∧
  ∀ p, H1 p = none → Q (.ref p) (upd H1 p (LeafO P w p (row.map fun k => xs.getD k .non)))
theorem row_at {row : List Nat} {us : List Value} (r : Vals (row.map fun (k : Nat) => V.int k) us) {i : Nat} {v : Value} (h : us[i]? = some v) : ∃ k t, row[i]? = some k ∧ v = .int ((k : Nat) : Int) t := by
  have hl := r.length
  have hi : i < (row.map fun (k : Nat) => V.int k).length := by
    rw [hl]
    exact (List.getElem?_eq_some_iff.mp h).1
  obtain ⟨u, hu, ru⟩ := Vals.get r (List.getElem?_eq_getElem hi)
  rw [h] at hu
  cases hu
  rw [List.getElem_map] at ru
  obtain ⟨t, e⟩ := ru
  rw [List.length_map] at hi
  exact ⟨_, t, List.getElem?_eq_getElem hi, e⟩
theorem pe_leafDc {iv j : Nat} {iter : Expr} {scope : Scope} {p1 p2 p3 p4 p5 pos : Pos} {ti : TE} (hc : X.calm = true) (hN : X.N[iv]? = some ("value" : Str)) (hv : X.env.scope.names.lookup ("value" : Str) = some NameKind.cell) (hi : PE X iter ti)
    (hsn : scope.names = [((".0" : Str), NameKind.local), (("other" : Str), NameKind.local), (("value" : Str), NameKind.free)]) (hk : scope.kind = .function) (hs : ∀ x, foldedSetIterable iter X.env x = pure x := by intro _; rfl) :
    PE X (.DictComp (.Subscript (.Name "value" p1) (.Name "other" p2) p3) (.Constant (.bool true) j p4) [⟨.Name "other" p5, iter, [], 0⟩] scope pos) (tLeaf X.prog X.w X.K iv ti) := by
  refine ⟨fun pins s σ H Q I h => ?_⟩
  obtain ⟨a, xs, ea, h⟩ := h
  have hhd := I.ok.hd hc
  obtain ⟨c0, hc0⟩ := I.ok.has ("value" : Str) (.inl hv)
  have hclo : cloFrom X.env.cells scope.names [] = [(("value" : Str), c0)] := by
    rw [hsn]
    show [(("value" : Str), (X.env.cells.lookup ("value" : Str)).getD 0)] = _
    rw [hc0]
    rfl
  have hclos : closureFor scope X.env = pure [(("value" : Str), c0)] := by
    rw [closure_ok, hclo]
    intro y hy e
    rw [hsn] at hy
    simp only [List.mem_cons, List.not_mem_nil, or_false] at hy
    rcases hy with rfl | rfl | rfl
    · cases e
    · cases e
    · exact ⟨c0, hc0⟩
  have hnc : ∀ y ∈ scope.names, y.2 = NameKind.local → scope.names.lookup y.1 = some NameKind.local := fun y hy e => by
    rw [hsn] at hy ⊢
    simp only [List.mem_cons, List.not_mem_nil, or_false] at hy
    rcases hy with rfl | rfl | rfl <;> first | rfl | cases e
  have hpc : ∀ h0 : Heap, pushCells h0 scope.names = h0 := fun h0 => by rw [hsn]; rfl
  have hcf : ∀ n0 acc, cellsFrom n0 scope.names acc = acc := fun n0 acc => by rw [hsn]; rfl
  rw [arm_eval_DictComp]
  refine wpAny_comprehension_free (use := none) rfl hs hclos hk hnc (thn (hi.run pins s σ H _ I h) fun xv s1 ⟨x, H1, I1, r1, r, row, ex, hq, hT, hrow, q⟩ => ?_)
  subst ex
  cases r1
  obtain ⟨its, rv, pl, hz⟩ := I1.list hq
  have hlr : r < s1.heap.objs.size := by
    obtain ⟨o, er, _⟩ := pl.isList
    exact Heap.lt_size er
  refine wpAny_pyIter_list pl.isList ?_
  have hne : r ≠ s1.heap.objs.size := Nat.ne_of_lt hlr
  have W := Walks.list (prog := X.prog) (w := X.w) (A := X.A) hhd s1.heap.objs.size r hne its.toArray
  have szi : its.toArray.size ≤ sizeLine := by
    rw [List.size_toArray, ← rv.length]
    exact hz
  generalize hit : ({ cls := .type "list_iterator", data := .fields #[.ref r, .int 0 0] } : Obj) = ito
  have fit : ito.isFreed = false := by subst hit; rfl
  have st2 : (s1.heap.push ito).IsListIter s1.heap.objs.size r 0 ∧ (s1.heap.push ito).IsList r its.toArray :=
    ⟨⟨ito, Heap.get?_push_size _ fit, by subst hit; rfl, by subst hit; rfl⟩, pl.isList.push _⟩
  generalize hg2 : s1.heap.push ito = g2 at st2
  have z2 : g2.objs.size = s1.heap.objs.size + 1 := by rw [← hg2, Heap.size_push]
  have k2 : ∀ b o, s1.heap.get? b = some o → g2.get? b = some o := fun b o e => by rw [← hg2]; exact Heap.get?_push_of_some _ e
  refine wpAny_newObj_type (newEnv_comp ?_)
  rw [hcf, hpc]
  have hDn : (g2.push { cls := .type "dict", data := .dict #[] }).DictOf (leafKind X.prog X.w) g2.objs.size [] := Heap.DictOf.new g2
  generalize hg3 : g2.push { cls := .type "dict", data := .dict #[] } = g3 at hDn
  have z3 : g3.objs.size = g2.objs.size + 1 := by rw [← hg3, Heap.size_push]
  have k3 : ∀ b o, g2.get? b = some o → g3.get? b = some o := fun b o e => by rw [← hg3]; exact Heap.get?_push_of_some _ e
  have nsC : (g3.push { cls := .type "dict", data := .dict #[] }).Ns g3.objs.size (fun _ => none) := Heap.Ns.new ..
  generalize hg4 : g3.push { cls := .type "dict", data := .dict #[] } = g4 at nsC
  have k4 : ∀ b o, g3.get? b = some o → g4.get? b = some o := fun b o e => by rw [← hg4]; exact Heap.get?_push_of_some _ e
  generalize hs4 : ({ s1 with heap := g4 } : Shared) = s4
  have h4 : s4.heap = g4 := by rw [← hs4]
  have big := I1.big
  -- the cell of the name that is read within
  obtain ⟨mL, nsL, look⟩ := I1.loc
  obtain ⟨u0, ru0, lk⟩ := look iv ("value" : Str) (.ref a) hN ea (.inr (.inl hv))
  cases ru0
  have cell0 : s1.heap.IsCell c0 (some (.ref a)) := by
    rcases lk with ⟨k, _⟩ | ⟨_, c', e', z⟩
    · have k' : X.env.scope.names.lookup ("value" : Str) = some NameKind.local := k
      rw [hv] at k'
      cases k'
    · rw [hc0] at e'
      cases e'
      exact z
  obtain ⟨its2, rv2, pt, _⟩ := I1.tuple hT
  show codeAny _ _ (.compStart _ 0 (.ref s1.heap.objs.size) (.ref g2.objs.size) (compEnvC scope [(("value" : Str), c0)] g3.objs.size X.env)) (compPost (model X.prog X.w) X.A X.xe none (EP X pins σ Q) (.ref g2.objs.size) g3.objs.size) _
  generalize hce : compEnvC scope [(("value" : Str), c0)] g3.objs.size X.env = ce
  have cL : ce.locals = g3.objs.size := by rw [← hce]; rfl
  have cK : ce.scope.kind = .function := by rw [← hce]; exact hk
  have cn : ce.scope.names = [((".0" : Str), NameKind.local), (("other" : Str), NameKind.local), (("value" : Str), NameKind.cell)] := by
    rw [← hce]
    show (scope.names.map fun (n, k) => if (k == NameKind.free && X.env.scope.kind == ScopeKind.function && X.env.kindOf n == some NameKind.cell) then (n, NameKind.cell) else (n, k)) = _
    have hv2 : X.env.kindOf ("value" : Str) = some NameKind.cell := hv
    rw [hsn, I.ok.kind]
    simp [hv2]
  have kO : ce.kindOf ("other" : Str) = some .local := by unfold Env.kindOf; rw [cn]; rfl
  have kV2 : ce.kindOf ("value" : Str) = some .cell := by unfold Env.kindOf; rw [cn]; rfl
  have cC : ce.cells.lookup ("value" : Str) = some c0 := by rw [← hce]; rfl
  have st4 : s4.heap.IsListIter s1.heap.objs.size r 0 ∧ s4.heap.IsList r its.toArray := by
    rw [h4]
    exact W.frame 0 _ _ st2 fun b _ o e => k4 b o (k3 b o e)
  have k14 : ∀ b o, s1.heap.get? b = some o → s4.heap.get? b = some o := fun b o e => by rw [h4]; exact k4 b o (k3 b o (k2 b o e))
  have loop : codeAny (model X.prog X.w) X.A (.compLoop (.DictComp (.Subscript (.Name "value" p1) (.Name "other" p2) p3) (.Constant (.bool true) j p4) [⟨.Name "other" p5, iter, [], 0⟩] scope pos) 0 (.ref s1.heap.objs.size) (.ref g2.objs.size) ce)
      (compPost (model X.prog X.w) X.A X.xe none (EP X pins σ Q) (.ref g2.objs.size) g3.objs.size) s4 := by
    refine codeAny_compLoop_walkD (K := Leaf) (knd := leafKind X.prog X.w) (m := fun _ => none) W (fun _ => true) (fun v k => ∃ (m : Nat) (t : Tok), v = .int (m : Int) t ∧ leafOf (xs.getD m V.non) = k) (fun _ _ => True)
      kO ?_ ?_ ?_ ?_ st4 ?_ ?_ ?_ ?_ ?_ ?_ szi
    · rw [cK]
      rfl
    · rw [cL, z3]
      exact Nat.ne_of_lt (Nat.lt_succ_self _)
    · rw [z2]
      simp only [List.mem_cons, List.not_mem_nil, or_false, not_or]
      exact ⟨Nat.ne_of_gt (Nat.lt_succ_self _), Nat.ne_of_gt (Nat.lt_succ_of_lt hlr)⟩
    · rw [cL, z3, z2]
      simp only [List.mem_cons, List.not_mem_nil, or_false, not_or]
      exact ⟨Nat.ne_of_gt (Nat.lt_succ_of_lt (Nat.lt_succ_self _)), Nat.ne_of_gt (Nat.lt_succ_of_lt (Nat.lt_succ_of_lt hlr))⟩
    · rw [h4]
      exact hDn.at fun o e => k4 _ o e
    · rw [h4, cL]
      exact nsC
    · intro i v s2 m2 hv2 hn2 hm2 hk2
      exact wpAny_tests_nil ⟨rfl, s2.heap, s2.toks, rfl, fun _ _ e => e⟩
    · intro i v s2 m2 hv2 _ hn2 hm2 hk2
      obtain ⟨kk, t, hkk, rfl⟩ := row_at (i := i) rv (by simpa using hv2)
      obtain ⟨y, hy, ly⟩ := hrow kk (List.mem_of_getElem? hkk)
      obtain ⟨u, hu, ru⟩ := rv2.get hy
      have low : ∀ b o, s1.heap.get? b = some o → s2.heap.get? b = some o := fun b o e => by
        have lt := Heap.lt_size e
        refine hk2 b o ?_ ?_ ?_ (k14 b o e)
        · rw [cL, z3, z2]
          exact Nat.ne_of_lt (Nat.lt_succ_of_lt (Nat.lt_succ_of_lt lt))
        · simp only [List.mem_cons, List.not_mem_nil, or_false]
          exact Nat.ne_of_lt lt
        · rw [z2]
          exact Nat.ne_of_lt (Nat.lt_succ_of_lt lt)
      refine Subscript_ (wpAny_Name (wpAny_loadName_cell cK kV2 cC (cell0.keeps low) (wpAny_Name (wpAny_loadName_local cK kO hn2 hm2 ?_))))
      have pt2 : IsTup s2.heap a its2.toArray := by
        obtain ⟨o, e1, e2⟩ := pt
        exact ⟨o, low a o e1, e2⟩
      have hkl : kk < its2.length := (List.getElem?_eq_some_iff.mp hu).1
      have bnd := line63
      have hl2 := rv2.length
      have hgi : seqIndex? ((kk : Nat) : Int) its2.toArray.size = some kk := by
        rw [List.size_toArray, PyProof.Rows.seqIndex_at (by omega) (by omega)]
        rfl
      have hk63 : ((kk : Nat) : Int) < 2 ^ 63 := by omega
      have hgo : ∀ (A' : Around) (E' : Value → Shared → Prop), wpAny (model X.prog X.w) A' (getItem (.ref a) (.int ((kk : Nat) : Int) t)) (fun r' s' => r' = u ∧ s' = s2) E' s2 := fun A' E' =>
        getItem_tuple (x := u) pt2 (by omega) hk63 hgi (by simpa using hu) ⟨rfl, rfl⟩
      refine subscriptTail_builtinR (x := u) pt2.typeIs slot_tuple_getitem.lookup (thn (hgo _ _) fun r' s' e => ⟨e.1, ?_⟩) rfl
      obtain ⟨rfl, rfl⟩ := e
      exact ⟨⟨_, leaf_is ly ru, kk, t, rfl, by rw [List.getD_eq_getElem?_getD, hy]; rfl⟩, s'.heap, s'.toks, rfl, fun _ _ e => e⟩
    · intro i v s2 m2 hv2 _ hn2 hm2 hk2
      exact Constant_bool ⟨trivial, s2.heap, s2.toks, rfl, fun _ _ e => e⟩
    · intro h' tk m' kvs vs hns hd hlen hP hst hkeep
      rw [cL] at hns
      refine ⟨m', hns, fun h'' sb => ?_⟩
      have evs : vs = its := by
        have z := list_of_places (items := its.toArray) hlen hP
        simpa using z
      subst evs
      have fil : vs.filter (fun _ => true) = vs := List.filter_eq_self.mpr fun _ _ => rfl
      rw [fil] at hst
      have keys := stored_all_keys hst fun v k k' ⟨m, t, e1, e2⟩ ⟨m2, t2, e3, e4⟩ => by
        rw [e1] at e3
        injection e3 with z _
        have z2 : m = m2 := by omega
        rw [← e2, ← e4, z2]
      have kall : ∀ b o, s1.heap.get? b = some o → h''.get? b = some o := fun b o e => by
        have lt := Heap.lt_size e
        have nC : b ≠ g3.objs.size := by
          rw [z3, z2]
          exact Nat.ne_of_lt (Nat.lt_succ_of_lt (Nat.lt_succ_of_lt lt))
        refine (sb.2 b nC).trans (hkeep b o (by rw [cL]; exact nC) ?_ ?_ (k14 b o e))
        · simp only [List.mem_cons, List.not_mem_nil, or_false]
          exact Nat.ne_of_lt lt
        · rw [z2]
          exact Nat.ne_of_lt (Nat.lt_succ_of_lt lt)
      have hDs : s1.heap.objs.size ≤ g2.objs.size := by
        rw [z2]
        exact Nat.le_succ _
      have nDC : g2.objs.size ≠ g3.objs.size := by
        rw [z3]
        exact Nat.ne_of_lt (Nat.lt_succ_self _)
      have Rf : LeafR X.prog X.w g2.objs.size (row.map fun k => xs.getD k .non) h'' := by
        refine ⟨beq_eq_false_iff_ne.mpr (Nat.ne_of_gt (Nat.lt_of_lt_of_le big hDs)), kvs, hd.at fun o e => (sb.2 _ nDC).trans e, fun k => ?_⟩
        rw [keys]
        constructor
        · rintro ⟨v, hv2, m, t, e1, e2⟩
          obtain ⟨i, hi2⟩ := List.getElem?_of_mem hv2
          obtain ⟨k2, t2, hr2, e3⟩ := row_at rv hi2
          rw [e1] at e3
          injection e3 with e4 _
          have e5 : m = k2 := by omega
          subst e5
          exact ⟨_, List.mem_map.mpr ⟨m, List.mem_of_getElem? hr2, rfl⟩, e2⟩
        · rintro ⟨y, hy, e⟩
          obtain ⟨m, hm, rfl⟩ := List.mem_map.mp hy
          obtain ⟨i, hi2⟩ := List.getElem?_of_mem hm
          have hv3 : (row.map fun (k : Nat) => V.int k)[i]? = some (.int m) := by rw [List.getElem?_map, hi2]; rfl
          obtain ⟨u, hu, t, ru⟩ := rv.get hv3
          exact ⟨u, List.mem_of_getElem? hu, m, t, ru, e⟩
      subst hs4
      exact ⟨.ref g2.objs.size, _, I1.laid (t' := tk) kall hDs (leafO_ok Rf), rfl, q _ (I1.hok.fresh hDs)⟩
  exact codeAny_compStart_dict loop (W.self 0 _ _ _ st4 loop)
/-- k in it -/
def rInLeaf (P : Program) (w : World) : R2 := fun x y H Q => ∃ (i : Int) (p : Addr) (ks : List V), x = .int i ∧ y = .ref p ∧ H p = some (LeafO P w p ks) ∧ (∀ z ∈ ks, leafV z = true) ∧ Q (.bl (decide (V.int i ∈ ks))) H
theorem op_inLeaf : OpR X (compareOp .In) (rInLeaf X.prog X.w) := by
  intro pins s σ H x y v u Q I rx ry h
  obtain ⟨i, p, ks, rfl, rfl, hp, hl, q⟩ := h
  cases ry
  obtain ⟨t, rfl⟩ := rx
  obtain ⟨⟨nm, kvs, hd, hk⟩, _⟩ := I.hok p _ hp
  have ee : (valueAt kvs (Leaf.num i)).isSome = decide (V.int i ∈ ks) := by
    rw [Bool.eq_iff_iff, valueAt_isSome, hk, decide_eq_true_eq]
    constructor
    · rintro ⟨z, hz, e⟩
      have q := hl z hz
      cases z with
      | int j =>
        injection e with e
        rw [← e]
        exact hz
      | non => cases e
      | _ => cases q
    · exact fun hz => ⟨_, hz, rfl⟩
  refine wpAny_in_of (knd := leafKind X.prog X.w) (k := Leaf.num i) ?_ nm hd.mapOf ⟨.bl _, H, I.tok _, rfl, ?_⟩
  · exact leaf_is (y := .int i) rfl ⟨t, rfl⟩
  · rw [ee]
    exact q
end
end Mx
end MxD_
section MxM_
set_option autoImplicit false
set_option linter.all false
/-! the mathematics: rows of largest sets, the states that they make, what a number needs -/
namespace Mx
abbrev Adj := Nat → Nat → Bool
structure Gr (n : Nat) (adj : Adj) : Prop where
  sym : ∀ i j, adj i j = true → adj j i = true
  irr : ∀ i, adj i i = false
  lt : ∀ i j, adj i j = true → i < n ∧ j < n

/-! ### sets without doors within -/
def grow (adj : Adj) (found : List (List Nat)) (room : Nat) : List (List Nat) := found ++ (found.filter fun s => !s.any (adj room)).map (· ++ [room])
def cand (adj : Adj) (R : List Nat) : List (List Nat) := R.foldl (grow adj) [[]]
def isMax (adj : Adj) (R S : List Nat) : Bool := R.all fun r => S.contains r || S.any (adj r)
def mx (adj : Adj) (R : List Nat) : List (List Nat) := (cand adj R).filter (isMax adj R)

theorem grow_len (adj : Adj) (F : List (List Nat)) (r : Nat) : (grow adj F r).length ≤ 2 * F.length := by
  unfold grow
  rw [List.length_append, List.length_map]
  have := List.length_filter_le (fun s : List Nat => !s.any (adj r)) F
  omega
theorem foldl_len (adj : Adj) : ∀ (R : List Nat) (F : List (List Nat)), (R.foldl (grow adj) F).length ≤ F.length * 2 ^ R.length
  | [], F => by simp
  | r :: R, F => by
    have h := foldl_len adj R (grow adj F r)
    have h2 := grow_len adj F r
    have h3 : (grow adj F r).length * 2 ^ R.length ≤ (2 * F.length) * 2 ^ R.length := Nat.mul_le_mul_right _ h2
    have e : (2 * F.length) * 2 ^ R.length = F.length * 2 ^ (R.length + 1) := by
      rw [Nat.pow_succ, Nat.mul_comm 2 F.length, Nat.mul_assoc, Nat.mul_comm 2]
    simp only [List.foldl_cons, List.length_cons]
    omega
theorem cand_len (adj : Adj) (R : List Nat) : (cand adj R).length ≤ 2 ^ R.length := by
  have h := foldl_len adj R [[]]
  simpa [cand] using h
theorem mx_len (adj : Adj) (R : List Nat) : (mx adj R).length ≤ 2 ^ R.length := Nat.le_trans (List.length_filter_le _ _) (cand_len adj R)

theorem mem_grow {adj : Adj} {F : List (List Nat)} {r : Nat} {S : List Nat} (h : S ∈ grow adj F r) : S ∈ F ∨ ∃ T ∈ F, T.any (adj r) = false ∧ S = T ++ [r] := by
  unfold grow at h
  rcases List.mem_append.mp h with h | h
  · exact .inl h
  · obtain ⟨T, hT, rfl⟩ := List.mem_map.mp h
    obtain ⟨h1, h2⟩ := List.mem_filter.mp hT
    refine .inr ⟨T, h1, ?_, rfl⟩
    simpa using h2
/-- what holds of the empty set and is kept by adding a room with no neighbor within holds of all -/
theorem foldl_ind {adj : Adj} {P : List Nat → Prop} (R : List Nat) : ∀ (F : List (List Nat)), (∀ S ∈ F, P S) → (∀ r ∈ R, ∀ T, P T → T.any (adj r) = false → P (T ++ [r])) → ∀ S ∈ R.foldl (grow adj) F, P S := by
  induction R with
  | nil => exact fun F h _ => h
  | cons r R ih =>
    intro F h hs
    rw [List.foldl_cons]
    refine ih (grow adj F r) (fun S hS => ?_) fun q hq => hs q (List.mem_cons_of_mem _ hq)
    rcases mem_grow hS with z | ⟨T, hT, e, rfl⟩
    · exact h S z
    · exact hs r List.mem_cons_self T (h T hT) e
theorem cand_sub {adj : Adj} {R S : List Nat} (h : S ∈ cand adj R) : ∀ x ∈ S, x ∈ R := by
  refine foldl_ind (P := fun S => ∀ x ∈ S, x ∈ R) R [[]] (fun S hS => ?_) (fun r hr T hT _ x hx => ?_) S h
  · rw [List.mem_singleton.mp hS]
    exact fun x hx => nomatch hx
  · rcases List.mem_append.mp hx with z | z
    · exact hT x z
    · rw [List.mem_singleton.mp z]
      exact hr
theorem cand_indep {n : Nat} {adj : Adj} (G : Gr n adj) {R S : List Nat} (h : S ∈ cand adj R) : ∀ x ∈ S, ∀ y ∈ S, adj x y = false := by
  refine foldl_ind (P := fun S => ∀ x ∈ S, ∀ y ∈ S, adj x y = false) R [[]] (fun S hS => ?_) (fun r hr T hT e x hx y hy => ?_) S h
  · rw [List.mem_singleton.mp hS]
    exact fun x hx => nomatch hx
  · have no : ∀ z ∈ T, adj r z = false := fun z hz => by
      have := List.any_eq_false.mp e z hz
      simpa using this
    have no2 : ∀ z ∈ T, adj z r = false := fun z hz => by
      cases q : adj z r with
      | false => rfl
      | true =>
        have := G.sym _ _ q
        rw [no z hz] at this
        cases this
    rcases List.mem_append.mp hx with hx | hx <;> rcases List.mem_append.mp hy with hy | hy
    · exact hT x hx y hy
    · rw [List.mem_singleton.mp hy]
      exact no2 x hx
    · rw [List.mem_singleton.mp hx]
      exact no y hy
    · rw [List.mem_singleton.mp hx, List.mem_singleton.mp hy]
      exact G.irr r
theorem foldl_size {adj : Adj} : ∀ (R : List Nat) (F : List (List Nat)) (m : Nat), (∀ S ∈ F, S.length ≤ m) → ∀ S ∈ R.foldl (grow adj) F, S.length ≤ m + R.length
  | [], F, m, h => h
  | r :: R, F, m, h => fun S hS => by
    have q := foldl_size R (grow adj F r) (m + 1) (fun T hT => ?_) S hS
    · simp only [List.length_cons]
      omega
    · rcases mem_grow hT with z | ⟨T', hT', _, rfl⟩
      · have := h T z
        omega
      · have := h T' hT'
        simp only [List.length_append, List.length_singleton]
        omega
theorem cand_size {adj : Adj} {R S : List Nat} (h : S ∈ cand adj R) : S.length ≤ R.length := by
  have := foldl_size (adj := adj) R [[]] 0 (fun S hS => by rw [List.mem_singleton.mp hS]; exact Nat.le_refl _) S h
  omega
theorem mx_mem {adj : Adj} {R S : List Nat} (h : S ∈ mx adj R) : S ∈ cand adj R ∧ ∀ r ∈ R, r ∉ S → ∃ y ∈ S, adj r y = true := by
  obtain ⟨h1, h2⟩ := List.mem_filter.mp h
  refine ⟨h1, fun r hr hn => ?_⟩
  have q := List.all_eq_true.mp h2 r hr
  rcases Bool.or_eq_true _ _ ▸ q with z | z
  · exact absurd (List.contains_iff_mem.mp z) hn
  · obtain ⟨y, hy, e⟩ := List.any_eq_true.mp z
    exact ⟨y, hy, e⟩
theorem mx_ne {adj : Adj} {R S : List Nat} (h : S ∈ mx adj R) (hR : R ≠ []) : S ≠ [] := by
  obtain ⟨_, h2⟩ := mx_mem h
  rintro rfl
  cases R with
  | nil => exact hR rfl
  | cons r R =>
    obtain ⟨y, hy, _⟩ := h2 r List.mem_cons_self (by simp)
    cases hy
/-- one by one, each that fits -/
def greedy (adj : Adj) (S : List Nat) : List Nat → List Nat
  | [] => S
  | r :: R => greedy adj (if S.any (adj r) then S else S ++ [r]) R
theorem greedy_sub (adj : Adj) : ∀ (R S : List Nat), ∀ x ∈ S, x ∈ greedy adj S R
  | [], S => fun x h => h
  | r :: R, S => fun x h => by
    unfold greedy
    refine greedy_sub adj R _ x ?_
    split
    · exact h
    · exact List.mem_append_left _ h
theorem mem_grow_of {adj : Adj} {F : List (List Nat)} {S : List Nat} (r : Nat) (h : S ∈ F) : (if S.any (adj r) then S else S ++ [r]) ∈ grow adj F r := by
  unfold grow
  split
  · exact List.mem_append_left _ h
  · rename_i e
    refine List.mem_append_right _ (List.mem_map.mpr ⟨S, List.mem_filter.mpr ⟨h, ?_⟩, rfl⟩)
    simp only [Bool.not_eq_true] at e
    rw [e]
    rfl
theorem greedy_mem (adj : Adj) : ∀ (R S : List Nat) (F : List (List Nat)), S ∈ F → greedy adj S R ∈ R.foldl (grow adj) F
  | [], S, F, h => h
  | r :: R, S, F, h => greedy_mem adj R _ _ (mem_grow_of r h)
theorem greedy_max (adj : Adj) : ∀ (R S : List Nat), ∀ r ∈ R, r ∈ greedy adj S R ∨ ∃ y ∈ greedy adj S R, adj r y = true
  | [], S => fun r h => nomatch h
  | q :: R, S => fun r h => by
    unfold greedy
    rcases List.mem_cons.mp h with rfl | h
    · by_cases e : S.any (adj r) = true
      · rw [if_pos e]
        obtain ⟨y, hy, ey⟩ := List.any_eq_true.mp e
        exact .inr ⟨y, greedy_sub adj R _ y hy, ey⟩
      · rw [if_neg e]
        exact .inl (greedy_sub adj R _ r (by simp))
    · exact greedy_max adj R _ r h
theorem mx_some (adj : Adj) (R : List Nat) : ∃ S, S ∈ mx adj R := by
  refine ⟨greedy adj [] R, List.mem_filter.mpr ⟨greedy_mem adj R [] [[]] (by simp), List.all_eq_true.mpr fun r hr => ?_⟩⟩
  rcases greedy_max adj R [] r hr with h | ⟨y, hy, e⟩
  · rw [List.contains_iff_mem.mpr h]
    rfl
  · rw [List.any_eq_true.mpr ⟨y, hy, e⟩, Bool.or_true]

/-! ### rows of sets -/
def less (R S : List Nat) : List Nat := R.filter fun r => !S.contains r
theorem mem_less {R S : List Nat} {x : Nat} : x ∈ less R S ↔ x ∈ R ∧ x ∉ S := by
  unfold less
  rw [List.mem_filter]
  simp
theorem less_lt {R S : List Nat} (h1 : ∀ x ∈ S, x ∈ R) (h2 : S ≠ []) : (less R S).length < R.length := by
  cases S with
  | nil => exact absurd rfl h2
  | cons y S =>
    unfold less
    refine List.length_filter_lt_length_iff_exists.mpr ⟨y, h1 y List.mem_cons_self, ?_⟩
    simp
def isLay (adj : Adj) : List Nat → List (List Nat) → Prop
  | R, [] => R = []
  | R, S :: m => R ≠ [] ∧ S ∈ mx adj R ∧ isLay adj (less R S) m
theorem mx_less {adj : Adj} {R S : List Nat} (h : S ∈ mx adj R) (hR : R ≠ []) : (less R S).length < R.length :=
  less_lt (cand_sub (mx_mem h).1) (mx_ne h hR)
theorem lay_some (adj : Adj) : ∀ (m : Nat) (R : List Nat), R.length ≤ m → ∃ x, isLay adj R x
  | 0, R, h => ⟨[], List.eq_nil_of_length_eq_zero (by omega)⟩
  | m + 1, R, h => by
    by_cases hR : R = []
    · exact ⟨[], hR⟩
    · obtain ⟨S, hS⟩ := mx_some adj R
      have q := mx_less hS hR
      obtain ⟨x, hx⟩ := lay_some adj m (less R S) (by omega)
      exact ⟨S :: x, hR, hS, hx⟩
theorem lay_len {adj : Adj} : ∀ {x : List (List Nat)} {R : List Nat}, isLay adj R x → x.length ≤ R.length
  | [], _, _ => Nat.zero_le _
  | S :: m, R, ⟨h1, h2, h3⟩ => by
    have q := lay_len h3
    have q2 := mx_less h2 h1
    simp only [List.length_cons]
    omega
theorem lay_sets {adj : Adj} : ∀ {x : List (List Nat)} {R : List Nat}, isLay adj R x → ∀ S ∈ x, ∀ r ∈ S, r ∈ R
  | [], _, _ => fun S h => nomatch h
  | T :: m, R, ⟨h1, h2, h3⟩ => fun S hS r hr => by
    rcases List.mem_cons.mp hS with rfl | hS
    · exact cand_sub (mx_mem h2).1 r hr
    · exact (mem_less.mp (lay_sets h3 S hS r hr)).1
/-- the place of a room's set -/
def lev : List (List Nat) → Nat → Nat
  | [], _ => 0
  | S :: m, i => if i ∈ S then 0 else lev m i + 1
theorem lev_lt {adj : Adj} : ∀ {x : List (List Nat)} {R : List Nat}, isLay adj R x → ∀ i ∈ R, lev x i < x.length
  | [], R, h => fun i hi => by
    rw [show R = [] from h] at hi
    cases hi
  | S :: m, R, ⟨h1, h2, h3⟩ => fun i hi => by
    unfold lev
    split
    · simp
    · rename_i hn
      have q := lev_lt h3 i (mem_less.mpr ⟨hi, hn⟩)
      simp only [List.length_cons]
      omega
theorem lev_ne {n : Nat} {adj : Adj} (G : Gr n adj) : ∀ {x : List (List Nat)} {R : List Nat}, isLay adj R x → ∀ i ∈ R, ∀ j ∈ R, adj i j = true → lev x i ≠ lev x j
  | [], R, h => fun i hi => by
    rw [show R = [] from h] at hi
    cases hi
  | S :: m, R, ⟨h1, h2, h3⟩ => fun i hi j hj e => by
    unfold lev
    by_cases a : i ∈ S <;> by_cases b : j ∈ S
    · have q := cand_indep G (mx_mem h2).1 i a j b
      rw [e] at q
      cases q
    · rw [if_pos a, if_neg b]
      omega
    · rw [if_neg a, if_pos b]
      omega
    · rw [if_neg a, if_neg b]
      have q := lev_ne G h3 i (mem_less.mpr ⟨hi, a⟩) j (mem_less.mpr ⟨hj, b⟩) e
      omega
theorem lev_all {adj : Adj} : ∀ {x : List (List Nat)} {R : List Nat}, isLay adj R x → ∀ i ∈ R, ∀ k, k < lev x i → ∃ j ∈ R, adj i j = true ∧ lev x j = k
  | [], R, h => fun i hi => by
    rw [show R = [] from h] at hi
    cases hi
  | S :: m, R, ⟨h1, h2, h3⟩ => fun i hi k hk => by
    unfold lev at hk
    split at hk
    · omega
    · rename_i hn
      cases k with
      | zero =>
        obtain ⟨y, hy, e⟩ := (mx_mem h2).2 i hi hn
        exact ⟨y, cand_sub (mx_mem h2).1 y hy, e, by unfold lev; rw [if_pos hy]⟩
      | succ k =>
        obtain ⟨j, hj, e1, e2⟩ := lev_all h3 i (mem_less.mpr ⟨hi, hn⟩) k (by omega)
        obtain ⟨hj1, hj2⟩ := mem_less.mp hj
        exact ⟨j, hj1, e1, by unfold lev; rw [if_neg hj2, e2]⟩

/-! ### the state that a row of sets makes -/
def put (f : List Nat) (S : List Nat) (k : Nat) : List Nat := S.foldl (fun f r => f.set r k) f
def puts (f : List Nat) : List (List Nat) → Nat → List Nat
  | [], _ => f
  | S :: m, k => puts (put f S k) m (k + 1)
def stateOf (n : Nat) (x : List (List Nat)) : List Nat := puts (List.replicate n 0) x 0
theorem put_len : ∀ (S f : List Nat) (k : Nat), (put f S k).length = f.length
  | [], f, k => rfl
  | r :: S, f, k => by
    have q := put_len S (f.set r k) k
    rw [List.length_set] at q
    exact q
theorem puts_len : ∀ (x : List (List Nat)) (f : List Nat) (k : Nat), (puts f x k).length = f.length
  | [], f, k => rfl
  | S :: m, f, k => by
    unfold puts
    rw [puts_len m, put_len]
theorem stateOf_len (n : Nat) (x : List (List Nat)) : (stateOf n x).length = n := by
  unfold stateOf
  rw [puts_len, List.length_replicate]
theorem put_out : ∀ (S f : List Nat) (k i : Nat), i ∉ S → (put f S k)[i]? = f[i]?
  | [], f, k, i, _ => rfl
  | r :: S, f, k, i, h => by
    have q := put_out S (f.set r k) k i fun z => h (List.mem_cons_of_mem _ z)
    have hr : r ≠ i := fun z => h (z ▸ List.mem_cons_self)
    rw [List.getElem?_set_ne hr] at q
    exact q
theorem put_in : ∀ (S f : List Nat) (k i : Nat), i ∈ S → i < f.length → (put f S k)[i]? = some k
  | r :: S, f, k, i, h, hl => by
    show (put (f.set r k) S k)[i]? = some k
    by_cases hi : i ∈ S
    · exact put_in S (f.set r k) k i hi (by rw [List.length_set]; exact hl)
    · rcases List.mem_cons.mp h with rfl | h
      · rw [put_out S _ k i hi, List.getElem?_set_self hl]
      · exact absurd h hi
theorem puts_get {adj : Adj} : ∀ {x : List (List Nat)} {R : List Nat}, isLay adj R x → ∀ (f : List Nat) (k i : Nat), i < f.length → (i ∈ R → (puts f x k)[i]? = some (k + lev x i)) ∧ (i ∉ R → (puts f x k)[i]? = f[i]?)
  | [], R, h => fun f k i hl => ⟨fun hi => absurd hi (by rw [show R = [] from h]; simp), fun _ => rfl⟩
  | S :: m, R, ⟨h1, h2, h3⟩ => fun f k i hl => by
    obtain ⟨q1, q2⟩ := puts_get h3 (put f S k) (k + 1) i (by rw [put_len]; exact hl)
    unfold puts lev
    refine ⟨fun hi => ?_, fun hi => ?_⟩
    · by_cases a : i ∈ S
      · rw [if_pos a, q2 fun z => (mem_less.mp z).2 a, put_in S f k i a hl]
        rfl
      · rw [if_neg a, q1 (mem_less.mpr ⟨hi, a⟩)]
        congr 1
        omega
    · have a : i ∉ S := fun z => hi (cand_sub (mx_mem h2).1 i z)
      rw [q2 fun z => hi (mem_less.mp z).1, put_out S f k i a]
/-- a rest, as the rows of sets make it -/
def IsRest (n : Nat) (adj : Adj) (s : List Nat) : Prop := ∃ x, isLay adj (List.range n) x ∧ s = stateOf n x
/-- what holds of it -/
structure Rest (n : Nat) (adj : Adj) (s : List Nat) : Prop where
  len : s.length = n
  small : ∀ i, i < n → s.getD i 0 < n
  apart : ∀ i j, adj i j = true → s.getD i 0 ≠ s.getD j 0
  all : ∀ i, i < n → ∀ k, k < s.getD i 0 → ∃ j, adj i j = true ∧ s.getD j 0 = k
theorem IsRest.rest {n : Nat} {adj : Adj} (G : Gr n adj) {s : List Nat} (h : IsRest n adj s) : Rest n adj s := by
  obtain ⟨x, hx, rfl⟩ := h
  have at_ : ∀ i, i < n → (stateOf n x).getD i 0 = lev x i := fun i hi => by
    have q := (puts_get hx (List.replicate n 0) 0 i (by rw [List.length_replicate]; exact hi)).1 (List.mem_range.mpr hi)
    unfold stateOf
    rw [List.getD_eq_getElem?_getD, q]
    simp
  refine ⟨stateOf_len n x, fun i hi => ?_, fun i j e => ?_, fun i hi k hk => ?_⟩
  · rw [at_ i hi]
    have q := lev_lt hx i (List.mem_range.mpr hi)
    have q2 := lay_len hx
    rw [List.length_range] at q2
    omega
  · obtain ⟨h1, h2⟩ := G.lt i j e
    rw [at_ i h1, at_ j h2]
    exact lev_ne G hx i (List.mem_range.mpr h1) j (List.mem_range.mpr h2) e
  · rw [at_ i hi] at hk
    obtain ⟨j, hj, e1, e2⟩ := lev_all hx i (List.mem_range.mpr hi) k hk
    exact ⟨j, e1, by rw [at_ j (List.mem_range.mp hj)]; exact e2⟩
theorem rest_some (n : Nat) (adj : Adj) : ∃ s, IsRest n adj s := by
  obtain ⟨x, hx⟩ := lay_some adj n (List.range n) (by rw [List.length_range]; exact Nat.le_refl _)
  exact ⟨_, x, hx, rfl⟩
/-- how many rows of sets there are at most; how often one is kept -/
def lb : Nat → Nat
  | 0 => 1
  | k + 1 => 2 ^ (k + 1) * lb k
def cs : Nat → Nat
  | 0 => 0
  | k + 1 => 1 + 2 ^ (k + 1) * cs k
theorem lb_pos : ∀ k, 1 ≤ lb k
  | 0 => Nat.le_refl _
  | k + 1 => Nat.mul_pos (Nat.two_pow_pos _) (lb_pos k)
theorem lb_le : ∀ {j k : Nat}, j ≤ k → lb j ≤ lb k := by
  intro j k h
  induction h with
  | refl => exact Nat.le_refl _
  | step _ ih => exact Nat.le_trans ih (Nat.le_mul_of_pos_left _ (Nat.two_pow_pos _))
theorem cs_le : ∀ {j k : Nat}, j ≤ k → cs j ≤ cs k := by
  intro j k h
  induction h with
  | refl => exact Nat.le_refl _
  | @step m _ ih =>
    have q : cs m ≤ 2 ^ (m + 1) * cs m := Nat.le_mul_of_pos_left _ (Nat.two_pow_pos _)
    show _ ≤ 1 + 2 ^ (m + 1) * cs m
    omega
theorem lb6 : lb 6 = 2097152 := by decide
theorem cs6 : cs 6 ≤ 10000000 := by decide

/-! ### lists without equal items -/
theorem nodup_sub {α : Type} [DecidableEq α] : ∀ {l m : List α}, l.Nodup → (∀ x ∈ l, x ∈ m) → l.length ≤ m.length
  | [], _, _, _ => Nat.zero_le _
  | a :: l, m, nd, h => by
    obtain ⟨h1, h2⟩ := List.nodup_cons.mp nd
    have q := nodup_sub (l := l) (m := m.erase a) h2 fun x hx => (List.mem_erase_of_ne (fun z => h1 (by rw [← z]; exact hx))).mpr (h x (List.mem_cons_of_mem _ hx))
    have hm := h a List.mem_cons_self
    have q2 := List.length_erase_of_mem hm
    have q3 := List.length_pos_of_mem hm
    simp only [List.length_cons]
    omega

/-! ### what a number needs -/
def wt (s : List Nat) (l : List Nat) : Nat := (l.map fun q => 2 ^ s.getD q 0).sum
theorem wt_append (s l m : List Nat) : wt s (l ++ m) = wt s l + wt s m := by
  unfold wt
  rw [List.map_append, List.sum_append]
theorem wt_one (s : List Nat) (q : Nat) : wt s [q] = 2 ^ s.getD q 0 := by simp [wt]
structure NInv (n : Nat) (adj : Adj) (s : List Nat) (room : Nat) (found queue : List Nat) : Prop where
  nd : found.Nodup
  lt : ∀ r ∈ found, r < n
  sub : ∀ q ∈ queue, q ∈ found
  has : room ∈ found
  cnt : found.length + wt s queue ≤ 2 ^ s.getD room 0 + queue.length
  clos : ∀ r ∈ found, r ∉ queue → ∀ k, k < s.getD r 0 → ∃ j ∈ found, adj r j = true ∧ s.getD j 0 = k
theorem NInv.start {n : Nat} {adj : Adj} {s : List Nat} {room : Nat} (h : room < n) : NInv n adj s room [room] [room] where
  nd := by simp
  lt := fun r hr => by rw [List.mem_singleton.mp hr]; exact h
  sub := fun q hq => hq
  has := List.mem_singleton.mpr rfl
  cnt := by rw [wt_one]; simp [Nat.add_comm]
  clos := fun r hr hn => absurd hr hn
/-- within a turn: here was popped off the queue q0, the numbers below i are served -/
structure NMid (n : Nat) (adj : Adj) (s : List Nat) (room here : Nat) (q0 : List Nat) (i : Nat) (found queue : List Nat) : Prop where
  nd : found.Nodup
  lt : ∀ r ∈ found, r < n
  sub : ∀ q ∈ queue, q ∈ found
  has : room ∈ found
  hh : here ∈ found
  cnt : found.length + wt s queue + 2 ^ s.getD here 0 ≤ 2 ^ s.getD room 0 + queue.length + 2 ^ i
  ms : wt s queue + 1 ≤ wt s q0 + 2 ^ i
  clos : ∀ r ∈ found, r ∉ queue → r ≠ here → ∀ k, k < s.getD r 0 → ∃ j ∈ found, adj r j = true ∧ s.getD j 0 = k
  own : ∀ k, k < i → ∃ j ∈ found, adj here j = true ∧ s.getD j 0 = k
theorem NInv.pop {n : Nat} {adj : Adj} {s : List Nat} {room here : Nat} {found q0 : List Nat} (h : NInv n adj s room found (q0 ++ [here])) : NMid n adj s room here q0 0 found q0 where
  nd := h.nd
  lt := h.lt
  sub := fun q hq => h.sub q (List.mem_append_left _ hq)
  has := h.has
  hh := h.sub here (by simp)
  cnt := by
    have q := h.cnt
    rw [wt_append, wt_one, List.length_append, List.length_singleton] at q
    simp only [Nat.pow_zero]
    omega
  ms := by simp
  clos := fun r hr hn hne => h.clos r hr (fun z => (List.mem_append.mp z).elim hn fun z => hne (List.mem_singleton.mp z))
  own := fun k hk => absurd hk (Nat.not_lt_zero _)
theorem NMid.skip {n : Nat} {adj : Adj} {s : List Nat} {room here : Nat} {q0 : List Nat} {i : Nat} {found queue : List Nat} (h : NMid n adj s room here q0 i found queue) {o : Nat} (ho : o ∈ found) (ha : adj here o = true) (hs : s.getD o 0 = i) :
    NMid n adj s room here q0 (i + 1) found queue where
  nd := h.nd
  lt := h.lt
  sub := h.sub
  has := h.has
  hh := h.hh
  cnt := by
    have q := h.cnt
    rw [Nat.pow_succ]
    omega
  ms := by
    have q := h.ms
    rw [Nat.pow_succ]
    omega
  clos := h.clos
  own := fun k hk => by
    by_cases e : k = i
    · exact ⟨o, ho, ha, hs.trans e.symm⟩
    · exact h.own k (by omega)
theorem NMid.add {n : Nat} {adj : Adj} {s : List Nat} {room here : Nat} {q0 : List Nat} {i : Nat} {found queue : List Nat} (h : NMid n adj s room here q0 i found queue) {o : Nat} (ho : o ∉ found) (hn : o < n) (ha : adj here o = true) (hs : s.getD o 0 = i) :
    NMid n adj s room here q0 (i + 1) (found ++ [o]) (queue ++ [o]) where
  nd := List.nodup_append.mpr ⟨h.nd, by simp, fun a ha b hb e => ho (by rw [← List.mem_singleton.mp hb, ← e]; exact ha)⟩
  lt := fun r hr => (List.mem_append.mp hr).elim (h.lt r) fun z => by rw [List.mem_singleton.mp z]; exact hn
  sub := fun q hq => (List.mem_append.mp hq).elim (fun z => List.mem_append_left _ (h.sub q z)) fun z => List.mem_append_right _ z
  has := List.mem_append_left _ h.has
  hh := List.mem_append_left _ h.hh
  cnt := by
    have q := h.cnt
    rw [wt_append, wt_one, hs, List.length_append, List.length_append, List.length_singleton, Nat.pow_succ]
    omega
  ms := by
    have q := h.ms
    rw [wt_append, wt_one, hs, Nat.pow_succ]
    omega
  clos := fun r hr hnq hne k hk => by
    rcases List.mem_append.mp hr with z | z
    · obtain ⟨j, hj, e⟩ := h.clos r z (fun y => hnq (List.mem_append_left _ y)) hne k hk
      exact ⟨j, List.mem_append_left _ hj, e⟩
    · exact absurd (List.mem_append_right _ z) hnq
  own := fun k hk => by
    by_cases e : k = i
    · exact ⟨o, List.mem_append_right _ (List.mem_singleton.mpr rfl), ha, hs.trans e.symm⟩
    · obtain ⟨j, hj, e⟩ := h.own k (by omega)
      exact ⟨j, List.mem_append_left _ hj, e⟩
theorem NMid.done {n : Nat} {adj : Adj} {s : List Nat} {room here : Nat} {q0 : List Nat} {found queue : List Nat} (h : NMid n adj s room here q0 (s.getD here 0) found queue) :
    NInv n adj s room found queue ∧ wt s queue < wt s (q0 ++ [here]) := by
  refine ⟨⟨h.nd, h.lt, h.sub, h.has, ?_, fun r hr hn k hk => ?_⟩, ?_⟩
  · have q := h.cnt
    omega
  · by_cases e : r = here
    · subst e
      exact h.own k hk
    · exact h.clos r hr hn e k hk
  · have q := h.ms
    rw [wt_append, wt_one]
    omega
/-- the rooms that a number needs -/
structure Need (n : Nat) (adj : Adj) (s : List Nat) (room : Nat) (F : List Nat) : Prop where
  nd : F.Nodup
  lt : ∀ r ∈ F, r < n
  has : room ∈ F
  many : F.length ≤ 2 ^ s.getD room 0
  clos : ∀ r ∈ F, ∀ k, k < s.getD r 0 → ∃ j ∈ F, adj r j = true ∧ s.getD j 0 = k
theorem NInv.need {n : Nat} {adj : Adj} {s : List Nat} {room : Nat} {found F : List Nat} (h : NInv n adj s room found []) (p : F.Perm found) : Need n adj s room F where
  nd := p.nodup_iff.mpr h.nd
  lt := fun r hr => h.lt r (p.mem_iff.mp hr)
  has := p.mem_iff.mpr h.has
  many := by
    have q := h.cnt
    rw [p.length_eq]
    simpa [wt] using q
  clos := fun r hr k hk => by
    obtain ⟨j, hj, e⟩ := h.clos r (p.mem_iff.mp hr) (by simp) k hk
    exact ⟨j, p.mem_iff.mpr hj, e⟩
end Mx
end MxM_
section MxN_
set_option Elab.async false
set_option linter.all false
set_option maxRecDepth 100000
set_option maxHeartbeats 1000000
/-! what stands in the heap, and the law's own measure of a value -/
namespace Mx
open PySem PySem.Spec PyProof.Rows L2
abbrev nV (k : Nat) : V := .int (k : Int)
theorem same_upd {H : Hp} {p : Addr} {o : HO} (h : H p = none) : Same H (upd H p o) := fun b x e => by
  rw [upd_ne (ne_of_none e h)]
  exact e
/-- all but what stands at a is as it was -/
def But (a : Addr) (H H' : Hp) : Prop := ∀ b o, b ≠ a → H b = some o → H' b = some o
theorem sBut {a : Addr} {H H' : Hp} (h : Same H H') : But a H H' := fun b o _ e => h b o e
theorem But.refl {a : Addr} {H : Hp} : But a H H := fun _ _ _ e => e
theorem But.trans {a : Addr} {H H1 H2 : Hp} (h : But a H H1) (h' : But a H1 H2) : But a H H2 := fun b o n e => h' b o n (h b o n e)
theorem but_upd {a : Addr} {H : Hp} {o : HO} : But a H (upd H a o) := fun b x n e => by
  rw [upd_ne n]
  exact e
theorem But.upd {a : Addr} {H H' : Hp} {o : HO} (h : But a H H') : But a H (L2.upd H' a o) := h.trans but_upd
/-- a new object that is written: nothing that stood is touched -/
theorem But.same {a : Addr} {H H' : Hp} (h : But a H H') (n : H a = none) : Same H H' := fun b o e => h b o (ne_of_none e n) e

/-! ### lists with their addresses -/
theorem map_at {α β : Type} {f : α → β} {l : List α} {i : Nat} {y : β} (h : (l.map f)[i]? = some y) : ∃ a, l[i]? = some a ∧ y = f a := by
  rw [List.getElem?_map] at h
  cases e : l[i]? with
  | none =>
    rw [e] at h
    cases h
  | some a =>
    rw [e] at h
    exact ⟨a, rfl, (Option.some.inj h).symm⟩
theorem at_map {α β : Type} {f : α → β} {l : List α} {i : Nat} {a : α} (h : l[i]? = some a) : (l.map f)[i]? = some (f a) := by
  rw [List.getElem?_map, h]
  rfl
theorem take_at {α : Type} {l : List α} {i : Nat} {a : α} (h : l[i]? = some a) : l.take (i + 1) = l.take i ++ [a] := by
  rw [List.take_add_one, h]
  rfl
abbrev Tups := List (Addr × List Nat)
abbrev refs {α : Type} (bs : List (Addr × α)) : List V := bs.map fun b => V.ref b.1
abbrev dat {α : Type} (bs : List (Addr × α)) : List α := bs.map fun b => b.2
/-- tuples of numbers stand where bs says -/
def TupsOk (H : Hp) (bs : Tups) : Prop := ∀ b ∈ bs, H b.1 = some (.tup (b.2.map nV))
def ListsOk (H : Hp) (bs : Tups) : Prop := ∀ b ∈ bs, H b.1 = some (.lst (b.2.map nV))
theorem TupsOk.same {H H' : Hp} {bs : Tups} (h : TupsOk H bs) (s : Same H H') : TupsOk H' bs := fun b hb => s _ _ (h b hb)
theorem ListsOk.same {H H' : Hp} {bs : Tups} (h : ListsOk H bs) (s : Same H H') : ListsOk H' bs := fun b hb => s _ _ (h b hb)
theorem tup_ne {H : Hp} {a b : Addr} {xs ys : List V} (h : H a = some (.tup xs)) (h' : H b = some (.lst ys)) : a ≠ b := ne_of h h' fun z => by cases z
theorem TupsOk.but {H H' : Hp} {bs : Tups} {a : Addr} {ys : List V} (h : TupsOk H bs) (ha : H a = some (.lst ys)) (s : But a H H') : TupsOk H' bs := fun b hb => s _ _ (tup_ne (h b hb) ha) (h b hb)
/-- the neighbors of each room, as a list of lists -/
structure RowsAt (H : Hp) (p : Addr) (n : Nat) (adj : Adj) : Prop where
  ex : ∃ rs : Tups, H p = some (.lst (refs rs)) ∧ rs.length = n ∧ ListsOk H rs ∧ (∀ b ∈ rs, b.2.length ≤ 100) ∧ ∀ i b, rs[i]? = some b → ∀ j, j ∈ b.2 ↔ adj i j = true
theorem RowsAt.same {H H' : Hp} {p : Addr} {n : Nat} {adj : Adj} (h : RowsAt H p n adj) (s : Same H H') : RowsAt H' p n adj := by
  obtain ⟨rs, h1, h2, h3, h4⟩ := h.ex
  exact ⟨rs, s _ _ h1, h2, h3.same s, h4⟩
/-- one row -/
theorem RowsAt.row {H : Hp} {p : Addr} {n : Nat} {adj : Adj} (h : RowsAt H p n adj) {i : Nat} (hi : i < n) :
    ∃ (xs : List V) (r : Addr) (row : List Nat), H p = some (.lst xs) ∧ xs.length = n ∧ xs[i]? = some (.ref r) ∧ H r = some (.lst (row.map nV)) ∧ row.length ≤ 100 ∧ ∀ j, j ∈ row ↔ adj i j = true := by
  obtain ⟨rs, h1, h2, h3, h4, h5⟩ := h.ex
  have hl : i < rs.length := by omega
  have e := List.getElem?_eq_getElem hl
  have hm := List.mem_of_getElem? e
  exact ⟨_, rs[i].1, rs[i].2, h1, by rw [List.length_map]; exact h2, at_map e, h3 _ hm, h4 _ hm, h5 i _ e⟩
/-! ### houses -/
structure House (n : Nat) (ds : List (Nat × Nat)) : Prop where
  pos : 1 ≤ n
  le : n ≤ 6
  lt : ∀ d ∈ ds, d.1 < d.2 ∧ d.2 < n
  asc : ds.Pairwise fun d e => d.1 < e.1 ∨ (d.1 = e.1 ∧ d.2 < e.2)
  many : ds.length ≤ 28
def adjOf (ds : List (Nat × Nat)) : Adj := fun i j => ds.contains (i, j) || ds.contains (j, i)
theorem adjOf_iff {ds : List (Nat × Nat)} {i j : Nat} : adjOf ds i j = true ↔ (i, j) ∈ ds ∨ (j, i) ∈ ds := by
  unfold adjOf
  rw [Bool.or_eq_true, List.contains_iff_mem, List.contains_iff_mem]
theorem House.gr {n : Nat} {ds : List (Nat × Nat)} (h : House n ds) : Gr n (adjOf ds) where
  sym := fun i j e => adjOf_iff.mpr (adjOf_iff.mp e).symm
  irr := fun i => by
    cases e : adjOf ds i i with
    | false => rfl
    | true =>
      rcases adjOf_iff.mp e with z | z <;> exact absurd (h.lt _ z).1 (Nat.lt_irrefl _)
  lt := fun i j e => by
    rcases adjOf_iff.mp e with z | z <;> have q := h.lt _ z <;> simp only at q <;> omega
abbrev dV (d : Nat × Nat) : List V := [nV d.1, nV d.2]
structure HouseAt (H : Hp) (a : Addr) (n : Nat) (ds : List (Nat × Nat)) : Prop where
  ex : ∃ (d : Addr) (ps : List (Addr × (Nat × Nat))), H a = some (.tup [nV n, .ref d]) ∧ H d = some (.tup (refs ps)) ∧ dat ps = ds ∧ ∀ b ∈ ps, H b.1 = some (.tup (dV b.2))
  ok : House n ds
theorem HouseAt.same {H H' : Hp} {a : Addr} {n : Nat} {ds : List (Nat × Nat)} (h : HouseAt H a n ds) (s : Same H H') : HouseAt H' a n ds := by
  obtain ⟨⟨d, ps, h1, h2, h3, h4⟩, k⟩ := h
  exact ⟨⟨d, ps, s _ _ h1, s _ _ h2, h3, fun b hb => s _ _ (h4 b hb)⟩, k⟩

/-! ### kinds of values -/
inductive Kd (H : Hp) : V → String → Prop
  | non : Kd H .non "NoneType"
  | bl (b : Bool) : Kd H (.bl b) "bool"
  | int (i : Int) : Kd H (.int i) "int"
  | str (x : Str) : Kd H (.str x) "str"
  | lst {a : Addr} {xs : List V} (h : H a = some (.lst xs)) : Kd H (.ref a) "list"
  | tup {a : Addr} {xs : List V} (h : H a = some (.tup xs)) : Kd H (.ref a) "tuple"
theorem Kd.tyx {K : PySem.W.Frag} {H : Hp} {v : V} {T : String} (h : Kd H v T) : TyX K H v (.type T) := by
  cases h with
  | non => exact .base .non
  | bl b => exact .base (.bl b)
  | int i => exact .base (.int i)
  | str x => exact .base (.str x)
  | lst h => exact .base (.lst h)
  | tup h => exact .base (.tup h)
def isi (T C : String) : Bool := T == C || (T == "bool" && C == "int")
def kinds : List String := ["NoneType", "bool", "int", "str", "list", "tuple"]
theorem Kd.mem {H : Hp} {v : V} {T : String} (h : Kd H v T) : T ∈ kinds := by
  cases h <;> decide
theorem kitB_isi : (kinds.all fun T => ["int", "bool", "str", "list", "tuple"].all fun C => decide (kitB T C = some (isi T C))) = true := by decide +kernel
theorem kit_isi {K : PySem.W.Frag} {T C : String} (hT : T ∈ kinds) (hC : C ∈ ["int", "bool", "str", "list", "tuple"]) : PySem.W.kitOne K (.type T) (.type C) = some (isi T C) :=
  kit_ty (of_decide_eq_true (List.all_eq_true.mp (List.all_eq_true.mp kitB_isi T hT) C hC))
theorem kd_flat {H : Hp} {v : V} (h : flatV v = true) : ∃ T, Kd H v T := by
  cases v with
  | non => exact ⟨_, .non⟩
  | bl b => exact ⟨_, .bl b⟩
  | int i => exact ⟨_, .int i⟩
  | str x => exact ⟨_, .str x⟩
  | _ => cases h
theorem Kd.same {H H' : Hp} {v : V} {T : String} (h : Kd H v T) (s : Same H H') : Kd H' v T := by
  cases h with
  | non => exact .non
  | bl b => exact .bl b
  | int i => exact .int i
  | str x => exact .str x
  | lst h => exact .lst (s _ _ h)
  | tup h => exact .tup (s _ _ h)
section
variable {X : Cx}
def rIsK : List V → Hp → VK → Prop := fun xs H Q => ∃ (v : V) (T C : String), xs = [v, .ty C] ∧ Kd H v T ∧ C ∈ ["int", "bool", "str", "list", "tuple"] ∧ Q (.bl (isi T C)) H
theorem call_isK : CallR X (.builtin "isinstance") rIsK := by
  intro pins s σ H xs us Q I r h
  obtain ⟨v, T, C, rfl, k, hC, q⟩ := h
  exact call_isi pins s σ H _ us Q I r ⟨v, .ty C, .type T, .type C, isi T C, rfl, .ty C, k.tyx, kit_isi k.mem hC, q⟩
/-- isinstance(x, (C1, C2)) -/
def rIsK2 : List V → Hp → VK → Prop := fun xs H Q => ∃ (v : V) (tp : Addr) (T C D : String), xs = [v, .ref tp] ∧ H tp = some (.tup [.ty C, .ty D]) ∧ Kd H v T ∧ C ∈ ["int", "bool", "str", "list", "tuple"] ∧ D ∈ ["int", "bool", "str", "list", "tuple"] ∧
  Q (.bl (isi T C || isi T D)) H
theorem call_isK2 : CallR X (.builtin "isinstance") rIsK2 := by
  intro pins s σ H xs us Q I r h
  obtain ⟨v, tp, T, C, D, rfl, ht, k, hC, hD, q⟩ := h
  refine call_isiT pins s σ H _ us Q I r ⟨v, tp, [.ty C, .ty D], .type T, [.type C, .type D], _, rfl, ht, .cons (.ty C) (.cons (.ty D) .nil), k.tyx, ?_, q⟩
  refine kitAny_cons (kit_isi k.mem hC) (fun e => ?_) fun e => by rw [e]; rfl
  rw [e, Bool.false_or]
  exact kitAny_cons (kit_isi k.mem hD) (fun e2 => by rw [e2]; exact kitAny_nil) fun e2 => e2
end

/-! ### flat values as data -/
def okD : V → Bool
  | .non => true
  | .bl _ => true
  | .int _ => true
  | .str x => PyData.canLay0 (.str x)
  | _ => false
def dOf : V → PyData
  | .bl b => .bool b
  | .int i => .int i
  | .str x => .str x
  | _ => .none
theorem okD_flat {v : V} (h : okD v = true) : flatV v = true := by
  cases v <;> first | rfl | exact h
theorem okD_all {xs : List V} (h : ∀ x ∈ xs, okD x = true) : xs.all flatV = true := List.all_eq_true.mpr fun x hx => okD_flat (h x hx)
theorem dp_of {K : PySem.W.Frag} {H : Hp} {v : V} (h : okD v = true) : Dp K H v (dOf v) := by
  cases v with
  | non => exact .non
  | bl b => exact .bl b
  | int i => exact .int i
  | str x => exact .str x
  | _ => cases h
theorem dpAll_of {K : PySem.W.Frag} {H : Hp} : ∀ {xs : List V}, (∀ x ∈ xs, okD x = true) → DpAll K H xs (xs.map dOf)
  | [], _ => .nil
  | x :: xs, h => .cons (dp_of (h x List.mem_cons_self)) (dpAll_of fun y hy => h y (List.mem_cons_of_mem _ hy))
theorem lay_of {v : V} (h : okD v = true) : PyData.canLay0 (dOf v) = true ∧ PyData.depth (dOf v) = 0 := by
  cases v with
  | non => exact ⟨by simp [dOf, PyData.canLay0], by simp [dOf, PyData.depth]⟩
  | bl b => exact ⟨by simp [dOf, PyData.canLay0], by simp [dOf, PyData.depth]⟩
  | int i => exact ⟨by simp [dOf, PyData.canLay0], by simp [dOf, PyData.depth]⟩
  | str x => exact ⟨h, by simp [dOf, PyData.depth]⟩
  | _ => cases h
theorem layAll_of : ∀ {xs : List V}, (∀ x ∈ xs, okD x = true) → PyData.canLayAll0 (xs.map dOf) = true ∧ PyData.depthAll (xs.map dOf) = 0
  | [], _ => ⟨by simp [PyData.canLayAll0], by simp [PyData.depthAll]⟩
  | x :: xs, h => by
    obtain ⟨h1, h2⟩ := lay_of (h x List.mem_cons_self)
    obtain ⟨h3, h4⟩ := layAll_of (xs := xs) fun y hy => h y (List.mem_cons_of_mem _ hy)
    exact ⟨by simp [PyData.canLayAll0, h1, h3], by simp [PyData.depthAll, h2, h4]⟩
theorem shaped_of {v : V} (h : okD v = true) : SeqAt.shaped (dOf v) = true := by
  obtain ⟨h1, h2⟩ := lay_of h
  unfold SeqAt.shaped
  rw [h1, h2]
  rfl
theorem shaped_lst {xs : List V} (h : ∀ x ∈ xs, okD x = true) : SeqAt.shaped (.list (xs.map dOf)) = true := by
  obtain ⟨h1, h2⟩ := layAll_of h
  unfold SeqAt.shaped
  rw [PyData.canLay0, PyData.depth, h1, h2]
  rfl
theorem shaped_tup {xs : List V} (h : ∀ x ∈ xs, okD x = true) : SeqAt.shaped (.tuple (xs.map dOf)) = true := by
  obtain ⟨h1, h2⟩ := layAll_of h
  unfold SeqAt.shaped
  rw [PyData.canLay0, PyData.depth, h1, h2]
  rfl
theorem eqvAll_nil (xs : List V) : PyData.eqvAll (xs.map dOf) [] = xs.isEmpty := by
  cases xs with
  | nil => simp [PyData.eqvAll]
  | cons x r => simp [PyData.eqvAll]
theorem okD_nats (R : List Nat) : ∀ x ∈ R.map nV, okD x = true := fun x hx => by
  obtain ⟨k, _, rfl⟩ := List.mem_map.mp hx
  rfl
section
variable {X : Cx}
/-- t == () -/
theorem op_eqNil (hu : X.A.units + 64 < cLine) : OpR X (compareOp .Eq) (fun x y H Q => ∃ a b xs, x = .ref a ∧ y = .ref b ∧ H a = some (.tup xs) ∧ H b = some (.tup []) ∧ (∀ z ∈ xs, okD z = true) ∧ Q (.bl xs.isEmpty) H) := by
  intro pins s σ H x y v u Q I rx ry h
  obtain ⟨a, b, xs, rfl, rfl, ha, hb, hx, q⟩ := h
  refine op_eqD hu pins s σ H _ _ v u Q I rx ry ⟨_, _, .tup (SqT.of ha) (dpAll_of hx), .tup (SqT.of hb) .nil, shaped_tup hx, shaped_tup (xs := []) (by simp), ?_⟩
  rw [show PyData.eqv (.tuple (xs.map dOf)) (.tuple []) = xs.isEmpty by rw [PyData.eqv, eqvAll_nil]]
  exact q
/-- xs != [], xs == [] -/
theorem op_neNil (hu : X.A.units + 64 < cLine) : OpR X (compareOp .NotEq) (fun x y H Q => ∃ a b xs, x = .ref a ∧ y = .ref b ∧ H a = some (.lst xs) ∧ H b = some (.lst []) ∧ (∀ z ∈ xs, okD z = true) ∧ Q (.bl (!xs.isEmpty)) H) := by
  intro pins s σ H x y v u Q I rx ry h
  obtain ⟨a, b, xs, rfl, rfl, ha, hb, hx, q⟩ := h
  refine op_neD hu pins s σ H _ _ v u Q I rx ry ⟨_, _, .lst (SqL.of ha) (dpAll_of hx), .lst (SqL.of hb) .nil, shaped_lst hx, shaped_lst (xs := []) (by simp), ?_⟩
  rw [show PyData.eqv (.list (xs.map dOf)) (.list []) = xs.isEmpty by rw [PyData.eqv, eqvAll_nil]]
  exact q
/-- a flat value against an int -/
theorem op_neInt (hu : X.A.units + 64 < cLine) : OpR X (compareOp .NotEq) (fun x y H Q => ∃ i, okD x = true ∧ y = .int i ∧ Q (.bl (!eqV x (.int i))) H) := by
  intro pins s σ H x y v u Q I rx ry h
  obtain ⟨i, hx, rfl, q⟩ := h
  refine op_neD hu pins s σ H x _ v u Q I rx ry ⟨_, _, dp_of hx, .int i, shaped_of hx, shaped_of (v := .int i) rfl, ?_⟩
  have e : PyData.eqv (dOf x) (.int i) = eqV x (.int i) := by
    cases x with
    | non => simp [dOf, PyData.eqv, eqV]
    | bl b => simp [dOf, PyData.eqv, eqV]
    | int j => simp [dOf, PyData.eqv, eqV]
    | str z => simp [dOf, PyData.eqv, eqV]
    | _ => cases hx
  rw [e]
  exact q
end
/-! ### what a value is worth -/
def okPart : V → Bool
  | .non => true
  | .int p => decide (0 ≤ p) && decide (p ≤ 60)
  | _ => false
def Fits (n : Nat) (adj : Adj) (vs : List V) (room : Nat) (num : Int) : Prop :=
  vs.length = n ∧ vs[room]? = some (.int num) ∧ (∀ v ∈ vs, okPart v = true) ∧ ∀ (i : Nat) (p : Int), vs[i]? = some (.int p) →
    (∀ j, adj i j = true → vs[j]? ≠ some (.int p)) ∧ ∀ k : Nat, (k : Int) < p → ∃ j, adj i j = true ∧ vs[j]? = some (nV k)
/-- a value that is no tuple is none -/
def FitsO (n : Nat) (adj : Adj) (o : Option (List V)) (room : Nat) (num : Int) : Prop := ∃ vs, o = some vs ∧ Fits n adj vs room num
def ValIs (H : Hp) (v : V) (o : Option (List V)) : Prop :=
  (v = .non ∧ o = none) ∨ (∃ a xs, v = .ref a ∧ H a = some (.lst xs) ∧ o = none) ∨ ∃ a xs, v = .ref a ∧ H a = some (.tup xs) ∧ (∀ x ∈ xs, okD x = true) ∧ o = some xs
theorem ValIs.same {H H' : Hp} {v : V} {o : Option (List V)} (h : ValIs H v o) (s : Same H H') : ValIs H' v o := by
  rcases h with h | ⟨a, xs, h1, h2, h3⟩ | ⟨a, xs, h1, h2, h3⟩
  · exact .inl h
  · exact .inr (.inl ⟨a, xs, h1, s _ _ h2, h3⟩)
  · exact .inr (.inr ⟨a, xs, h1, s _ _ h2, h3⟩)
/-- the witness that is told -/
def wit (n : Nat) (s F : List Nat) : List V := (List.range n).map fun i => if i ∈ F then nV (s.getD i 0) else .non
theorem wit_len (n : Nat) (s F : List Nat) : (wit n s F).length = n := by
  unfold wit
  rw [List.length_map, List.length_range]
theorem wit_at {n : Nat} {s F : List Nat} {i : Nat} (h : i < n) : (wit n s F)[i]? = some (if i ∈ F then nV (s.getD i 0) else .non) := by
  unfold wit
  rw [List.getElem?_map, List.getElem?_range h]
  rfl
theorem wit_int {n : Nat} {s F : List Nat} {i : Nat} {p : Int} (h : (wit n s F)[i]? = some (.int p)) : i < n ∧ i ∈ F ∧ p = (s.getD i 0 : Nat) := by
  have hi : i < n := by
    have := (List.getElem?_eq_some_iff.mp h).1
    rwa [wit_len] at this
  rw [wit_at hi] at h
  by_cases e : i ∈ F
  · rw [if_pos e] at h
    injection Option.some.inj h with z
    exact ⟨hi, e, z.symm⟩
  · rw [if_neg e] at h
    cases h
theorem wit_fits {n : Nat} {adj : Adj} {s F : List Nat} {room : Nat} (G : Gr n adj) (hn : n ≤ 6) (R : Rest n adj s) (N : Need n adj s room F) : Fits n adj (wit n s F) room (s.getD room 0 : Nat) := by
  refine ⟨wit_len n s F, ?_, fun v hv => ?_, fun i p h => ?_⟩
  · rw [wit_at (N.lt _ N.has), if_pos N.has]
  · unfold wit at hv
    obtain ⟨i, hi, rfl⟩ := List.mem_map.mp hv
    have q := R.small i (List.mem_range.mp hi)
    split
    · show (decide (0 ≤ ((s.getD i 0 : Nat) : Int)) && decide (((s.getD i 0 : Nat) : Int) ≤ 60)) = true
      rw [decide_eq_true (by omega), decide_eq_true (by omega)]
      rfl
    · rfl
  · obtain ⟨hi, hF, rfl⟩ := wit_int h
    refine ⟨fun j hj e => ?_, fun k hk => ?_⟩
    · obtain ⟨_, _, e2⟩ := wit_int e
      exact R.apart i j hj (by omega)
    · obtain ⟨j, hj, e1, e2⟩ := N.clos i hF k (by omega)
      refine ⟨j, e1, ?_⟩
      rw [wit_at (N.lt j hj), if_pos hj, e2]
theorem wit_many {n : Nat} {s F : List Nat} : ((wit n s F).filter fun v => !decide (v = .non)).length ≤ F.length := by
  unfold wit
  rw [List.filter_map, List.length_map]
  refine nodup_sub (List.nodup_range.filter _) fun x hx => ?_
  have q := (List.mem_filter.mp hx).2
  simp only [Function.comp] at q
  by_cases e : x ∈ F
  · exact e
  · simp [e] at q
theorem wit_flat {n : Nat} {s F : List Nat} : ∀ x ∈ wit n s F, okD x = true := fun x hx => by
  unfold wit at hx
  obtain ⟨i, _, rfl⟩ := List.mem_map.mp hx
  split <;> rfl
end Mx
end MxN_
section MxT_
set_option Elab.async false
set_option linter.all false
set_option maxRecDepth 100000
set_option maxHeartbeats 1000000
/-! the text by places, defs by their names -/
namespace Mx
open PySem PySem.Spec PyProof.Rows L2
def topS (i : Nat) : Stmt := PySem.Challenge.pw_mexrooms_k37_whole_witnesses.main.body.getD i (.Pass ⟨0, 0, 0, 0⟩)
abbrev sIsInteger : Stmt := topS 1
abbrev sIsIn : Stmt := topS 2
abbrev sIsList : Stmt := topS 3
abbrev sNeedDoors : Stmt := topS 11
abbrev sNeedHouse : Stmt := topS 12
abbrev sNeedRoom : Stmt := topS 13
abbrev sNear : Stmt := topS 14
abbrev sLargestIn : Stmt := topS 16
abbrev sIsLargest : Stmt := topS 17
abbrev sLayersFrom : Stmt := topS 18
abbrev sStateOf : Stmt := topS 19
abbrev sAllRests : Stmt := topS 20
abbrev sRests : Stmt := topS 21
abbrev sShownIn : Stmt := topS 23
abbrev sIsWitness : Stmt := topS 24
abbrev sShowsNumber : Stmt := topS 25
abbrev sNeededBy : Stmt := topS 26
abbrev sWitness : Stmt := topS 27
abbrev sTaken : Stmt := topS 29
abbrev sPick : Stmt := topS 30
abbrev sAlike : Stmt := topS 31
abbrev sHouse : Stmt := topS 32
abbrev sLNear : Stmt := topS 33
abbrev sFits : Stmt := topS 34
abbrev sLaw : Stmt := topS 35
/-- a def of the text, behind the top -/
structure Df (K : PySem.W.Frag) (mg : Str → Option Value) (x : Str) (st : Stmt) (ps : List Str) : Prop where
  ex : ∃ (f : Addr) (fd : FuncData), Fun K x x st f fd ∧ mg x = some (.ref f) ∧ Binds K fd ps []
/-- a def that keeps a promise -/
structure Cal (P : Program) (w : World) (K : PySem.W.Frag) (mg : Str → Option Value) (base : Heap) (k : Nat) (x : Str) (ps : List Str) (sp : Sp) : Prop where
  ex : ∃ (f : Addr) (fd : FuncData), FnOk P w K mg base CX0 k f fd ps sp ∧ mg x = some (.ref f) ∧ PySem.W.keepIn K (.ref f) = true ∧ Binds K fd ps []
section
variable {P : Program} {w : World} {K : PySem.W.Frag} {mg : Str → Option Value} {base : Heap}
theorem Df.cal {x : Str} {st : Stmt} {N ps : List Str} {k : Nat} {sp : Sp} (D : Df K mg x st ps) (S : FnScope N ps (defScope st)) (len : ∀ vs H Q E, sp vs H Q E → vs.length = ps.length)
    (hbody : ∀ (f : Addr) (cdv : Value) (A : Around) (outer : List Env) (s : Shared) (H : Hp) (vs : List V) (Q : VK) (E : XK), Room k (A.deeper (envOfC x (defScope st) s.heap.objs.size f cdv)) → sp vs H Q E →
      ∃ t, PSs (cxOf CX0 P w K mg base N x (defScope st) f cdv A outer s H E).nox (defBody st) t ∧ t { nx := fun _ H' => Q .non H', rt := Q } (start N vs) H) : Cal P w K mg base (k + 1) x ps sp := by
  obtain ⟨f, fd, F, hm, b⟩ := D.ex
  exact ⟨f, fd, F.ok S len (hbody f), hm, F.kp, b⟩
theorem Cal.mono {x : Str} {ps : List Str} {sp : Sp} {j k : Nat} (c : Cal P w K mg base j x ps sp) (h : j ≤ k) : Cal P w K mg base k x ps sp := by
  obtain ⟨f, fd, F, r⟩ := c.ex
  exact ⟨f, fd, F.mono h, r⟩
end
section
variable {X : Cx}
theorem pe_cal {k j : Nat} {x : Str} {ps : List Str} {sp : Sp} {p pos : Pos} {e : Expr} {es : List Expr} {t : TA} (c : Cal X.prog X.w X.K X.mg X.base k x ps sp) (hr : Room j X.A) (hk : k ≤ j) (ha : PA X (e :: es) t) (hg : Gl X x := by rfl)
    (hdb : (x == ("__debug__" : Str)) = false := by decide) (he : starEach (e :: es) X.env = (false, eval e X.env) :: starEach es X.env := by rfl) (hpl : (backTo pos (starEach es X.env)).any (·.1) = false := by rfl) :
    PE X (.Call (.Name x p) (e :: es) [] pos) (tCall sp [] E0 t) := by
  obtain ⟨f, fd, F, hm, kp, b⟩ := c.ex
  exact pe_call F (hr.mono hk) hg hm kp b .nil pass0 ha hdb he hpl
end
/-- the built-ins are still that; the module's one constant -/
structure Blt (mg : Str → Option Value) : Prop where
  isinstance : mg "isinstance" = none
  int : mg "int" = none
  bool : mg "bool" = none
  str : mg "str" = none
  tuple : mg "tuple" = none
  list : mg "list" = none
  set : mg "set" = none
  len : mg "len" = none
  all : mg "all" = none
  any : mg "any" = none
  range : mg "range" = none
  enumerate : mg "enumerate" = none
  sorted : mg "sorted" = none
  most : ∃ t, mg "MOST_ROOMS" = some (.int 8 t)
end Mx
end MxT_
section MxR_
set_option Elab.async false
set_option linter.all false
set_option maxRecDepth 100000
set_option maxHeartbeats 1000000
/-! lists of lists that grow by place; small helps -/
namespace Mx
open PySem PySem.Spec PyProof.Rows L2
theorem iteNT {c : Bool} {A B : Prop} (hc : c = true) (h : B) : if (!c) = true then A else B := by
  rw [hc]
  exact iteF h
theorem iteB {c : Bool} {A B : Prop} (hc : c = false) (h : B) : if c = true then A else B := by
  rw [hc]
  exact iteF h
theorem iteA {c : Bool} {A B : Prop} (hc : c = true) (h : A) : if c = true then A else B := by
  rw [hc]
  exact iteT h
theorem refs_snoc {α : Type} (l : List (Addr × α)) (p : Addr) (x : α) : refs (l ++ [(p, x)]) = refs l ++ [V.ref p] := by
  unfold refs
  rw [List.map_append]
  rfl
theorem dat_snoc {α : Type} (l : List (Addr × α)) (p : Addr) (x : α) : dat (l ++ [(p, x)]) = dat l ++ [x] := by
  unfold dat
  rw [List.map_append]
  rfl
def bump (f : Nat → List Nat) (i j : Nat) : Nat → List Nat := fun k => if k = i then f i ++ [j] else f k
def stepD (f : Nat → List Nat) (d : Nat × Nat) : Nat → List Nat := bump (bump f d.1 d.2) d.2 d.1
def rowsOf (ds : List (Nat × Nat)) : Nat → List Nat := ds.foldl stepD fun _ => []
theorem rowsOf_snoc (ds : List (Nat × Nat)) (d : Nat × Nat) : rowsOf (ds ++ [d]) = stepD (rowsOf ds) d := by
  unfold rowsOf
  rw [List.foldl_append]
  rfl
theorem mem_bump {f : Nat → List Nat} {i j k x : Nat} : x ∈ bump f i j k ↔ x ∈ f k ∨ (k = i ∧ x = j) := by
  unfold bump
  by_cases e : k = i
  · subst e
    rw [if_pos rfl, List.mem_append, List.mem_singleton]
    simp
  · rw [if_neg e]
    simp [e]
theorem len_bump {f : Nat → List Nat} {i j k : Nat} : (bump f i j k).length ≤ (f k).length + 1 := by
  unfold bump
  by_cases e : k = i
  · subst e
    rw [if_pos rfl, List.length_append]
    exact Nat.le_refl _
  · rw [if_neg e]
    exact Nat.le_succ _
theorem rowsOf_mem (ds : List (Nat × Nat)) (i j : Nat) : j ∈ rowsOf ds i ↔ adjOf ds i j = true := by
  rw [adjOf_iff]
  have key : ∀ (m : Nat) (ds : List (Nat × Nat)), ds.length = m → (j ∈ rowsOf ds i ↔ (i, j) ∈ ds ∨ (j, i) ∈ ds) := by
    intro m
    induction m with
    | zero =>
      intro ds h
      rw [List.eq_nil_of_length_eq_zero h]
      simp [rowsOf]
    | succ m ih =>
      intro ds h
      have hne : ds ≠ [] := by
        rintro rfl
        cases h
      have e := List.dropLast_concat_getLast hne
      have ihd := ih ds.dropLast (by rw [List.length_dropLast, h]; rfl)
      rw [← e, rowsOf_snoc]
      unfold stepD
      rw [mem_bump, mem_bump, ihd, List.mem_append, List.mem_append, List.mem_singleton, List.mem_singleton]
      generalize ds.getLast hne = d
      obtain ⟨a, b⟩ := d
      simp only [Prod.mk.injEq]
      constructor
      · rintro ((h | ⟨rfl, rfl⟩) | ⟨rfl, rfl⟩)
        · rcases h with h | h
          · exact .inl (.inl h)
          · exact .inr (.inl h)
        · exact .inl (.inr ⟨rfl, rfl⟩)
        · exact .inr (.inr ⟨rfl, rfl⟩)
      · rintro ((h | ⟨rfl, rfl⟩) | (h | ⟨rfl, rfl⟩))
        · exact .inl (.inl (.inl h))
        · exact .inl (.inr ⟨rfl, rfl⟩)
        · exact .inl (.inl (.inr h))
        · exact .inr ⟨rfl, rfl⟩
  exact key _ ds rfl
theorem rowsOf_len (i : Nat) : ∀ (m : Nat) (ds : List (Nat × Nat)), ds.length = m → (rowsOf ds i).length ≤ 2 * m := by
  intro m
  induction m with
  | zero =>
    intro ds h
    rw [List.eq_nil_of_length_eq_zero h]
    exact Nat.le_refl _
  | succ m ih =>
    intro ds h
    have hne : ds ≠ [] := by
      rintro rfl
      cases h
    have e := List.dropLast_concat_getLast hne
    have ihd := ih ds.dropLast (by rw [List.length_dropLast, h]; rfl)
    rw [← e, rowsOf_snoc]
    unfold stepD
    have q1 := len_bump (f := bump (rowsOf ds.dropLast) (ds.getLast hne).1 (ds.getLast hne).2) (i := (ds.getLast hne).2) (j := (ds.getLast hne).1) (k := i)
    have q2 := len_bump (f := rowsOf ds.dropLast) (i := (ds.getLast hne).1) (j := (ds.getLast hne).2) (k := i)
    omega
/-- behind H0: a new list at F of new lists at ps, f i at the i-th -/
structure Grows (H0 H' : Hp) (F : Addr) (ps : List Addr) (f : Nat → List Nat) : Prop where
  same : Same H0 H'
  new : ∀ p ∈ ps, H0 p = none
  newF : H0 F = none
  at_ : H' F = some (.lst (ps.map V.ref))
  nd : ps.Nodup
  nF : F ∉ ps
  row : ∀ i p, ps[i]? = some p → H' p = some (.lst ((f i).map nV))
theorem Grows.start {H0 : Hp} {F : Addr} (h : H0 F = none) : Grows H0 (upd H0 F (.lst [])) F [] fun _ => [] where
  same := same_upd h
  new := fun p hp => nomatch hp
  newF := h
  at_ := upd_same
  nd := List.nodup_nil
  nF := by simp
  row := fun i p e => by simp at e
/-- one more empty list -/
theorem Grows.more {H0 H' : Hp} {F q : Addr} {ps : List Addr} (h : Grows H0 H' F ps fun _ => []) (hq : H' q = none) :
    Grows H0 (upd (upd H' q (.lst [])) F (.lst (ps.map V.ref ++ [.ref q]))) F (ps ++ [q]) fun _ => [] where
  same := fun b o e => by
    rw [upd_ne (ne_of_none e h.newF), upd_ne (ne_of_none (h.same _ _ e) hq)]
    exact h.same _ _ e
  new := fun p hp => (List.mem_append.mp hp).elim (h.new p) fun z => by
    rw [List.mem_singleton.mp z]
    exact h.same.free hq
  newF := h.newF
  at_ := by
    rw [upd_same, List.map_append]
    rfl
  nd := by
    refine List.nodup_append.mpr ⟨h.nd, by simp, fun a ha b hb e => ?_⟩
    rw [List.mem_singleton] at hb
    obtain ⟨i, hi⟩ := List.getElem?_of_mem ha
    have q1 := h.row i a hi
    rw [e, hb, hq] at q1
    cases q1
  nF := by
    intro hm
    rcases List.mem_append.mp hm with z | z
    · exact h.nF z
    · rw [List.mem_singleton] at z
      have q1 := h.at_
      rw [z, hq] at q1
      cases q1
  row := fun i p e => by
    have hm : p ∈ ps ++ [q] := List.mem_of_getElem? e
    have npF : p ≠ F := by
      rintro rfl
      rcases List.mem_append.mp hm with z | z
      · exact h.nF z
      · rw [List.mem_singleton] at z
        have q1 := h.at_
        rw [z, hq] at q1
        cases q1
    rw [upd_ne npF]
    rcases Nat.lt_or_ge i ps.length with hl | hl
    · rw [List.getElem?_append_left hl] at e
      have q1 := h.row i p e
      rw [upd_ne (ne_of_none q1 hq)]
      exact q1
    · rw [List.getElem?_append_right hl] at e
      have e2 : p = q := by
        have := List.mem_of_getElem? e
        exact List.mem_singleton.mp this
      rw [e2, upd_same]
      rfl
/-- found[i].append(j) -/
theorem Grows.app {H0 H' : Hp} {F p : Addr} {ps : List Addr} {f : Nat → List Nat} {i j : Nat} (h : Grows H0 H' F ps f) (hp : ps[i]? = some p) :
    Grows H0 (upd H' p (.lst ((f i).map nV ++ [nV j]))) F ps (bump f i j) where
  same := fun b o e => by
    rw [upd_ne (ne_of_none e (h.new p (List.mem_of_getElem? hp)))]
    exact h.same _ _ e
  new := h.new
  newF := h.newF
  at_ := by
    rw [upd_ne (fun z => h.nF (by rw [z]; exact List.mem_of_getElem? hp))]
    exact h.at_
  nd := h.nd
  nF := h.nF
  row := fun k q e => by
    unfold bump
    by_cases hk : k = i
    · subst hk
      rw [hp] at e
      cases e
      rw [upd_same, if_pos rfl, List.map_append]
      rfl
    · have nq : q ≠ p := fun z => hk (nd_ix h.nd e (z ▸ hp))
      rw [upd_ne nq, if_neg hk]
      exact h.row k q e
/-- that is rows of neighbors -/
theorem Grows.rows {H0 H' : Hp} {F : Addr} {ps : List Addr} {n : Nat} {ds : List (Nat × Nat)} (h : Grows H0 H' F ps (rowsOf ds)) (hl : ps.length = n) (hm : ds.length ≤ 28) : RowsAt H' F n (adjOf ds) := by
  refine ⟨ps.zipIdx.map (fun b => (b.1, rowsOf ds b.2)), ?_, ?_, fun b hb => ?_, fun b hb => ?_, fun i b e j => ?_⟩
  · rw [h.at_, refs, List.map_map]
    congr 2
    have : ps = ps.zipIdx.map (·.1) := by simp
    conv => lhs; rw [this]
    rw [List.map_map]
    rfl
  · rw [List.length_map, List.length_zipIdx, hl]
  · obtain ⟨⟨p, i⟩, hm2, rfl⟩ := List.mem_map.mp hb
    have q := List.mk_mem_zipIdx_iff_getElem?.mp hm2
    exact h.row i p q
  · obtain ⟨⟨p, i⟩, _, rfl⟩ := List.mem_map.mp hb
    have q := rowsOf_len i _ ds rfl
    simp only
    omega
  · obtain ⟨⟨p, i2⟩, e2, rfl⟩ := map_at e
    rw [List.getElem?_zipIdx] at e2
    cases e3 : ps[i]? with
    | none =>
      rw [e3] at e2
      cases e2
    | some p2 =>
      rw [e3] at e2
      have e4 : (p2, 0 + i) = (p, i2) := Option.some.inj e2
      injection e4 with _ e5
      have e6 : i = i2 := by omega
      subst e6
      exact rowsOf_mem ds i j
theorem lexGe2 {a b c d : Nat} (h : a < c ∨ (a = c ∧ b < d)) : lexGe [(a : Int), b] [(c : Int), d] = false := by
  unfold lexGe
  simp only [List.length_cons, List.length_nil, Nat.reduceAdd, Nat.min_self]
  simp only [Ob.lexAt, List.getD_cons_zero, List.getD_cons_succ]
  rcases h with h | ⟨rfl, h⟩
  · rw [decide_eq_false (show ¬ ((a : Int) = c) by omega)]
    simp
    omega
  · simp
    omega
end Mx
end MxR_
section MxQ_
set_option Elab.async false
set_option linter.all false
set_option maxRecDepth 100000
set_option maxHeartbeats 1000000
/-! lists made by comprehensions whose elements touch nothing; sorted tuples of natural numbers -/
namespace Mx
open PySem PySem.Spec PyProof.Rows L2
/-- behind H1 the new list at D holds seq i -/
def PM (H1 : Hp) (D : Addr) (seq : Nat → List V) (i : Nat) (H' : Hp) : Prop := Same H1 H' ∧ H' D = some (.lst (seq i))
theorem PM.start {H1 : Hp} {D : Addr} {seq : Nat → List V} (nD : H1 D = none) (e : seq 0 = [] := by first | rfl | simp) : PM H1 D seq 0 (upd H1 D (.lst [])) := ⟨same_upd nD, by rw [upd_same, e]⟩
theorem PM.step {H1 H' H4 : Hp} {D : Addr} {seq : Nat → List V} {i : Nat} {v : V} (h : PM H1 D seq i H') (nD : H1 D = none) (s : Same H' H4) (e : seq (i + 1) = seq i ++ [v]) (hz : (seq i).length < sizeLine) :
    ∃ acc, H4 D = some (.lst acc) ∧ acc.length < sizeLine ∧ PM H1 D seq (i + 1) (upd H4 D (.lst (acc ++ [v]))) :=
  ⟨seq i, s _ _ h.2, hz, fun b o eb => by
    rw [upd_ne (ne_of_none eb nD)]
    exact s _ _ (h.1 _ _ eb), by rw [upd_same, e]⟩
theorem PM.skip {H1 H' H4 : Hp} {D : Addr} {seq : Nat → List V} {i : Nat} (h : PM H1 D seq i H') (s : Same H' H4) (e : seq (i + 1) = seq i) : PM H1 D seq (i + 1) H4 :=
  ⟨h.1.trans s, by rw [s _ _ h.2, e]⟩
theorem PM.fin {H1 H' : Hp} {D : Addr} {seq : Nat → List V} {i : Nat} (h : PM H1 D seq i H') {l : List V} (e : seq i = l) : H' D = some (.lst l) := e ▸ h.2
theorem take_all {α β : Type} {f : α → β} (l : List α) : l.take (l.map f).length = l := List.take_of_length_le (by rw [List.length_map]; exact Nat.le_refl _)
theorem ix_lt {α : Type} {l : List α} {i : Nat} {a : α} (h : l[i]? = some a) : i < l.length := (List.getElem?_eq_some_iff.mp h).1
theorem small6 {n : Nat} (h : n ≤ 10000000) : n < sizeLine := Nat.lt_of_le_of_lt h (by decide)
/-- k in some numbers -/
theorem inV_nat (k : Nat) (S : List Nat) : inV (nV k) (S.map nV) = S.contains k := by
  rw [Bool.eq_iff_iff, List.contains_iff_mem]
  unfold inV
  rw [List.any_eq_true]
  constructor
  · rintro ⟨y, hy, e⟩
    obtain ⟨j, hj, rfl⟩ := List.mem_map.mp hy
    have e2 : ((j : Int) == (k : Int)) = true := e
    have e3 : j = k := by
      have := eq_of_beq e2
      omega
    exact e3 ▸ hj
  · intro h
    exact ⟨nV k, List.mem_map.mpr ⟨k, h, rfl⟩, by show ((k : Int) == (k : Int)) = true; exact beq_self_eq_true _⟩
theorem flat_nats (S : List Nat) : (S.map nV).all flatV = true := by
  rw [List.all_eq_true]
  intro x hx
  obtain ⟨j, _, rfl⟩ := List.mem_map.mp hx
  rfl
/-- a row of neighbors: some of them in S -/
theorem any_row {adj : Adj} {i : Nat} {row S : List Nat} (h : ∀ j, j ∈ row ↔ adj i j = true) : (row.map fun o => S.contains o).any id = S.any (adj i) := by
  rw [Bool.eq_iff_iff, List.any_eq_true, List.any_eq_true]
  constructor
  · rintro ⟨b, hb, e⟩
    obtain ⟨j, hj, rfl⟩ := List.mem_map.mp hb
    exact ⟨j, List.contains_iff_mem.mp e, (h j).mp hj⟩
  · rintro ⟨j, hj, e⟩
    exact ⟨_, List.mem_map.mpr ⟨j, (h j).mpr e, rfl⟩, List.contains_iff_mem.mpr hj⟩
def toI (b : Addr × List Nat) : Addr × List Int := (b.1, b.2.map fun (k : Nat) => (k : Int))
def toN (b : Addr × List Int) : Addr × List Nat := (b.1, b.2.map Int.toNat)
theorem toN_toI (b : Addr × List Nat) : toN (toI b) = b := by
  obtain ⟨a, l⟩ := b
  show (a, (l.map fun (k : Nat) => (k : Int)).map Int.toNat) = (a, l)
  rw [List.map_map]
  congr 1
  conv => rhs; rw [← List.map_id l]
  rfl
def rSortN (K : PySem.W.Frag) : List V → Hp → VK → Prop := fun vs H Q => ∃ (a : Addr) (bs : Tups), vs = [V.ref a] ∧ SqL K H a (refs bs) ∧ (∀ b ∈ bs, H b.1 = some (.tup (b.2.map nV)) ∧ b.2 ≠ []) ∧
  ∀ (out : Tups) (p : Addr), out.Perm bs → H p = none → Q (.ref p) (upd H p (.lst (refs out)))
section
variable {X : Cx}
theorem cr_sortN (hu : X.A.units + 64 < cLine) : CallR X (.builtin "sorted") (rSortN X.K) := by
  intro pins s σ H vs us Q I r h
  obtain ⟨a, bs, e, hs, hb, q⟩ := h
  refine cr_sortT hu pins s σ H vs us Q I r ⟨a, bs.map toI, e, ?_, fun b hbm => ?_, fun out p hp np => ?_⟩
  · have e2 : refsOf (bs.map toI) = refs bs := by
      unfold refsOf refs
      rw [List.map_map]
      rfl
    rw [e2]
    exact hs
  · obtain ⟨c, hc, rfl⟩ := List.mem_map.mp hbm
    obtain ⟨h1, h2⟩ := hb c hc
    refine ⟨?_, fun z => h2 (List.map_eq_nil_iff.mp z)⟩
    show H c.1 = some (.tup ((c.2.map fun (k : Nat) => (k : Int)).map V.int))
    rw [List.map_map]
    exact h1
  · have hp2 := hp.map toN
    rw [List.map_map] at hp2
    have e3 : bs.map (toN ∘ toI) = bs := by
      conv => rhs; rw [← List.map_id bs]
      exact List.map_congr_left fun b _ => toN_toI b
    rw [e3] at hp2
    have q2 := q _ p hp2 np
    have e4 : refs (out.map toN) = refsOf out := by
      unfold refsOf refs
      rw [List.map_map]
      rfl
    rw [e4] at q2
    exact q2
end
end Mx
end MxQ_
section MxP1_
set_option Elab.async false
set_option linter.all false
set_option maxRecDepth 100000
set_option maxHeartbeats 1000000
namespace Mx
open PySem PySem.Spec PyProof.Rows L2
section
variable {P : Program} {w : World} {K : PySem.W.Frag} {mg : Str → Option Value} {base : Heap}
theorem scIsInteger : FnScope ["value"] ["value"] (defScope sIsInteger) := ⟨rfl, rfl, rfl, by decide +kernel, rfl, by decide +kernel, by decide +kernel⟩
def spIsInteger : Sp := fun vs H Q _ => ∃ (v : V) (T : String), vs = [v] ∧ Kd H v T ∧ Q (.bl (T == "int")) H
theorem isi_int : ∀ T ∈ kinds, (isi T "int" && !isi T "bool") = (T == "int") := by decide
theorem ok_isInteger (D : Df K mg "is_integer" sIsInteger ["value"]) (B : Blt mg) : Cal P w K mg base 1 "is_integer" ["value"] spIsInteger := by
  refine D.cal scIsInteger (fun vs H Q E h => ?_) (fun f cdv A outer s H vs Q E hr h => ?_)
  · obtain ⟨v, T, rfl, _⟩ := h
    rfl
  · obtain ⟨v, T, rfl, hk, q⟩ := h
    refine ⟨_, pss_one (ps_ret (pe_and (pe_callB call_isK (by rfl) B.isinstance (by decide +kernel) (pa_cons (pv 0) (pa_cons (pe_bltn (v := .ty "int") (by rfl) B.int (by decide +kernel) rfl) pa_nil)))
      (pe_one (pe_not (pe_callB call_isK (by rfl) B.isinstance (by decide +kernel) (pa_cons (pv 0) (pa_cons (pe_bltn (v := .ty "bool") (by rfl) B.bool (by decide +kernel) rfl) pa_nil))))))), ?_⟩
    refine ⟨v, rfl, v, T, "int", rfl, hk, by decide, _, rfl, ?_⟩
    have e := isi_int T hk.mem
    refine ite2 (fun e1 => ?_) (fun e1 => ?_)
    · rw [e1, Bool.true_and] at e
      refine ⟨v, rfl, v, T, "bool", rfl, hk, by decide, _, rfl, ?_⟩
      rw [e]
      exact q
    · rw [Bool.not_eq_true] at e1
      rw [e1, Bool.false_and] at e
      rw [e]
      exact q
def inB (lo hi : Int) : V → Bool
  | .int i => decide (lo ≤ i) && decide (i ≤ hi)
  | _ => false
theorem scIsIn : FnScope ["value", "least", "most"] ["value", "least", "most"] (defScope sIsIn) := ⟨rfl, rfl, rfl, by decide +kernel, rfl, by decide +kernel, by decide +kernel⟩
def spIsIn : Sp := fun vs H Q _ => ∃ (v : V) (T : String) (lo hi : Int), vs = [v, .int lo, .int hi] ∧ Kd H v T ∧ (inB lo hi v = true → Q (.bl true) H) ∧ (inB lo hi v = false → Q (.bl false) H)
theorem spIsIn_bl {lo hi : Int} {v : V} {H : Hp} {Q : VK} (h1 : inB lo hi v = true → Q (.bl true) H) (h2 : inB lo hi v = false → Q (.bl false) H) : Q (.bl (inB lo hi v)) H := by
  cases e : inB lo hi v with
  | true => exact h1 e
  | false => exact h2 e
theorem inB_no {lo hi i : Int} (h1 : lo ≤ i) (h2 : i ≤ hi) (e : inB lo hi (.int i) = false) : False := by
  have q : (decide (lo ≤ i) && decide (i ≤ hi)) = false := e
  rw [decide_eq_true h1, decide_eq_true h2] at q
  cases q
theorem tupIs {H : Hp} {a : Addr} {xs : List V} {R : List V → Prop} (h : H a = some (.tup xs)) (q : R xs) : ∀ (b : Addr) (ys : List V), V.ref a = .ref b → H b = some (.tup ys) → R ys := fun b ys e e2 => by
  cases e
  rw [h] at e2
  cases e2
  exact q
theorem ok_isIn (D : Df K mg "is_in" sIsIn ["value", "least", "most"]) (C : Cal P w K mg base 1 "is_integer" ["value"] spIsInteger) : Cal P w K mg base 2 "is_in" ["value", "least", "most"] spIsIn := by
  refine D.cal scIsIn (fun vs H Q E h => ?_) (fun f cdv A outer s H vs Q E hr h => ?_)
  · obtain ⟨v, T, lo, hi, rfl, _⟩ := h
    rfl
  · obtain ⟨v, T, lo, hi, rfl, hk, qt, qf⟩ := h
    have q := spIsIn_bl qt qf
    refine ⟨_, pss_one (ps_ret (pe_and (pe_cal C hr (by decide) (pa_cons (pv 0) pa_nil)) (pe_one (pe_chain op_le op_le (pv 1) (pv 0) (pv 2))))), ?_⟩
    refine ⟨v, rfl, v, T, rfl, hk, _, rfl, ?_⟩
    cases hk with
    | int i =>
      refine iteT ⟨_, rfl, _, rfl, lo, i, rfl, rfl, _, rfl, ?_⟩
      refine ite2 (fun e1 => ?_) (fun e1 => ?_)
      · refine ⟨_, rfl, i, hi, rfl, rfl, ?_⟩
        have q2 : Q (.bl (decide (lo ≤ i) && decide (i ≤ hi))) H := q
        rw [e1, Bool.true_and] at q2
        exact q2
      · have q2 : Q (.bl (decide (lo ≤ i) && decide (i ≤ hi))) H := q
        rw [eq_false_of_ne_true e1, Bool.false_and] at q2
        exact q2
    | _ => exact iteF q
theorem scIsList : FnScope ["value", "least", "most"] ["value", "least", "most"] (defScope sIsList) := ⟨rfl, rfl, rfl, by decide +kernel, rfl, by decide +kernel, by decide +kernel⟩
def spIsList : Sp := fun vs H Q _ => ∃ (v : V) (T : String) (lo hi : Int), vs = [v, .int lo, .int hi] ∧ Kd H v T ∧ (T ≠ "tuple" → Q (.bl false) H) ∧
  ∀ (a : Addr) (xs : List V), v = .ref a → H a = some (.tup xs) → Q (.bl (decide (lo ≤ (xs.length : Int)) && decide ((xs.length : Int) ≤ hi))) H
theorem ok_isList (D : Df K mg "is_list" sIsList ["value", "least", "most"]) (B : Blt mg) : Cal P w K mg base 1 "is_list" ["value", "least", "most"] spIsList := by
  refine D.cal scIsList (fun vs H Q E h => ?_) (fun f cdv A outer s H vs Q E hr h => ?_)
  · obtain ⟨v, T, lo, hi, rfl, _⟩ := h
    rfl
  · obtain ⟨v, T, lo, hi, rfl, hk, q1, q2⟩ := h
    refine ⟨_, pss_one (ps_ret (pe_and (pe_callB call_isK (by rfl) B.isinstance (by decide +kernel) (pa_cons (pv 0) (pa_cons (pe_bltn (v := .ty "tuple") (by rfl) B.tuple (by decide +kernel) rfl) pa_nil)))
      (pe_one (pe_chain op_le op_le (pv 1) (pe_callB call_len_seq (by rfl) B.len PySem.boot_len (pa_cons (pv 0) pa_nil)) (pv 2))))), ?_⟩
    refine ⟨v, rfl, v, T, "tuple", rfl, hk, by decide, _, rfl, ?_⟩
    cases hk with
    | @tup a xs ha =>
      refine iteT ⟨_, rfl, _, rfl, a, xs, rfl, .inr (.inl (.inl ha)), _, _, rfl, rfl, _, rfl, ?_⟩
      have q := q2 a xs rfl ha
      refine ite2 (fun e1 => ?_) (fun e1 => ?_)
      · rw [e1, Bool.true_and] at q
        exact ⟨_, rfl, _, _, rfl, rfl, q⟩
      · rw [eq_false_of_ne_true e1, Bool.false_and] at q
        exact q
    | _ => exact iteF (q1 (by decide))
end
end Mx
end MxP1_
section MxP2_
set_option Elab.async false
set_option linter.all false
set_option maxRecDepth 100000
set_option maxHeartbeats 1000000
namespace Mx
open PySem PySem.Spec PyProof.Rows L2
section
variable {P : Program} {w : World} {K : PySem.W.Frag} {mg : Str → Option Value} {base : Heap}
abbrev psNum : List Str := ["value", "least", "most"]
theorem scNeedRoom : FnScope ["house", "room"] ["house", "room"] (defScope sNeedRoom) := ⟨rfl, rfl, rfl, by decide +kernel, rfl, by decide +kernel, by decide +kernel⟩
def spNeedRoom : Sp := fun vs H Q _ => ∃ (a : Addr) (n : Nat) (ds : List (Nat × Nat)) (r : Nat), vs = [.ref a, nV r] ∧ HouseAt H a n ds ∧ r < n ∧ Q .non H
theorem ok_needRoom (D : Df K mg "need_room" sNeedRoom ["house", "room"]) (C : Cal P w K mg base 2 "is_in" psNum spIsIn) : Cal P w K mg base 3 "need_room" ["house", "room"] spNeedRoom := by
  refine D.cal scNeedRoom (fun vs H Q E h => ?_) (fun f cdv A outer s H vs Q E hr h => ?_)
  · obtain ⟨a, n, ds, r, rfl, _⟩ := h
    rfl
  · obtain ⟨a, n, ds, r, rfl, hh, hlt, q⟩ := h
    refine ⟨_, pss_one (ps_if (pt_not (pt_val (pe_cal C hr (by decide) (pa_cons (pv 1) (pa_cons pe_int (pa_cons (pe_op op_sub (pe_ix ix_tup (pv 0) pe_int (fun _ _ => rfl)) pe_int) pa_nil)))))) pss_never pss_nil), ?_⟩
    obtain ⟨d, ps, h1, h2, h3, h4⟩ := hh.ex
    refine ⟨nV r, rfl, .ref a, rfl, a, _, 0, nV n, rfl, rfl, .inl (.inl h1), atI_nat (j := 0) rfl, (n : Int), 1, rfl, rfl, ?_⟩
    exact ⟨nV r, "int", 0, (n : Int) - 1, rfl, .int _, fun _ => ⟨_, rfl, iteF q⟩, fun e => (inB_no (by omega) (by omega) e).elim⟩
theorem scNeedDoors : FnScope ["size", "doors", "index", "door", "room"] ["size", "doors"] (defScope sNeedDoors) := ⟨rfl, rfl, rfl, by decide +kernel, rfl, by decide +kernel, by decide +kernel⟩
def spNeedDoors : Sp := fun vs H Q _ => ∃ (d : Addr) (n : Nat) (ps : List (Addr × (Nat × Nat))), vs = [nV n, .ref d] ∧ H d = some (.tup (refs ps)) ∧ (∀ b ∈ ps, H b.1 = some (.tup (dV b.2))) ∧ House n (dat ps) ∧ ∀ H', Same H H' → Q .non H'
theorem ok_needDoors (D : Df K mg "need_doors" sNeedDoors ["size", "doors"]) (B : Blt mg) (C1 : Cal P w K mg base 1 "is_list" psNum spIsList) (C2 : Cal P w K mg base 2 "is_in" psNum spIsIn) : Cal P w K mg base 3 "need_doors" ["size", "doors"] spNeedDoors := by
  obtain ⟨mt, hm⟩ := B.most
  refine D.cal scNeedDoors (fun vs H Q E h => ?_) (fun f cdv A outer s H vs Q E hr h => ?_)
  · obtain ⟨d, n, ps, rfl, _⟩ := h
    rfl
  · obtain ⟨d, n, ps, rfl, hd, hp, hh, q⟩ := h
    refine ⟨_, pss_cons (ps_if (pt_not (pt_val (pe_cal C1 hr (by decide) (pa_cons (pv 1) (pa_cons pe_int (pa_cons (pe_op op_fdiv (pe_op op_mul (pe_glob (v := .int 8) (by rfl) hm ⟨_, rfl⟩) (pe_op op_sub (pe_glob (v := .int 8) (by rfl) hm ⟨_, rfl⟩) pe_int)) pe_int) pa_nil)))))) pss_never pss_nil)
      (pss_one (ps_for PassesOwn.never rfl (pi_enumT (by rfl) B.enumerate (pa_cons (pv 1) pa_nil))
        (pg_tup rfl (pgs_cons (pg_name (i := 2) scNeedDoors.nd rfl (.inl rfl)) (pgs_cons (pg_name (i := 3) scNeedDoors.nd rfl (.inl rfl)) pgs_nil)))
        (pss_cons (ps_if (PW.pt (pw_or (pt_not (pt_val (pe_cal C1 hr (by decide) (pa_cons (pv 3) (pa_cons pe_int (pa_cons pe_int pa_nil))))))
          (pw_or (pt_not (pt_val (pe_callB (cr_all rfl) (by rfl) B.all (by decide +kernel) (pa_cons (pe_lc (own := [("room", 4)]) (g := gName 4) (tt := tYes) rfl scNeedDoors.nd (pi_tup (pv 3))
              (blkOk_by (N := ["size", "doors", "index", "door", "room"]) (sc := defScope sNeedDoors) (by decide +kernel)) (fun _ _ _ _ _ => pg_name (i := 4) scNeedDoors.nd rfl (.inl rfl)) (fun _ _ _ _ _ => pts_nil)
              (fun _ _ _ _ _ => pe_cal C2 hr (by decide) (pa_cons (pv 4) (pa_cons pe_int (pa_cons (pe_op op_sub (pv 0) pe_int) pa_nil))))) pa_nil))))
            (pw_or1 (pt_cmpR op_ge (pe_ix ix_tup (pv 3) pe_int (fun _ _ => rfl)) (pe_ix ix_tup (pv 3) pe_int (fun _ _ => rfl)) (nomark _)))))) pss_never pss_nil)
        (pss_one (ps_if (PW.pt (pw_and (pt_cmpR op_gt (pv 2) pe_int (nomark _)) (pw_and1 (pt_cmpR (op_geT hr.units0) (pe_ix ix_tup (pv 1) (pe_op op_sub (pv 2) pe_int) (fun _ _ => rfl)) (pv 3) (nomark _))))) pss_never pss_nil))))), ?_⟩
    have hlen : ps.length ≤ 28 := by
      have := hh.many
      rwa [List.length_map] at this
    refine ⟨.ref d, rfl, _, _, rfl, rfl, _, _, rfl, rfl, .inl ⟨by decide, by decide⟩, _, _, rfl, rfl, ⟨by decide, by decide⟩, _, "tuple", 0, 28, rfl, .tup hd, fun n => absurd rfl n, tupIs hd ⟨_, rfl, ?_⟩⟩
    refine iteNT (by rw [List.length_map, decide_eq_true (by omega), decide_eq_true (by omega)]; rfl) ?_
    refine ⟨.ref d, rfl, d, _, rfl, .inl (.inl hd), for_enumT (K := K) (a := d) (xs := refs ps) (fun i σ H' => ∃ v2 v3 v4, σ = [some (nV n), some (.ref d), v2, v3, v4] ∧ Same H H')
      ⟨none, none, none, rfl, Same.refl H⟩ (fun i σ H' _ ⟨_, _, _, _, sm⟩ => .inl (.inl (sm _ _ hd))) ?_ ?_⟩
    · rintro i x T σ H1 hx ⟨v2, v3, v4, rfl, sm⟩ nT
      obtain ⟨b, hb, rfl⟩ := map_at hx
      have hbm := List.mem_of_getElem? hb
      have s1 : Same H1 (upd H1 T (.tup [nV i, .ref b.1])) := same_upd nT
      have hb1 := s1 _ _ (sm _ _ (hp b hbm))
      obtain ⟨l1, l2⟩ := hh.lt b.2 (List.mem_map.mpr ⟨b, hbm, rfl⟩)
      refine ⟨T, [nV i, .ref b.1], rfl, .inl (.inl upd_same), rfl, nV i, [.ref b.1], rfl, .ref b.1, [], rfl, rfl, ?_⟩
      refine ⟨.ref b.1, rfl, _, "tuple", 2, 2, rfl, .tup hb1, fun n => absurd rfl n, tupIs hb1 ⟨_, rfl, iteNT (by rfl) ?_⟩⟩
      refine ⟨.ref b.1, rfl, b.1, rfl, ⟨_, .inl (.inl hb1)⟩, fun L nL => lc_tup (K := K) (a := b.1) (xs := dV b.2)
        (fun j H' => H' = upd (upd H1 T (.tup [nV i, .ref b.1])) L (.lst ((List.replicate j true).map V.bl))) rfl (fun j H' _ e => ?_) ?_ ?_⟩
      · subst e
        exact .inl (.inl (same_upd nL _ _ hb1))
      · rintro j y H' hy rfl
        obtain ⟨m, rfl, hmn⟩ : ∃ m : Nat, y = nV m ∧ m < n := by
          rcases j with _ | _ | j
          · exact ⟨_, (Option.some.inj hy).symm, by omega⟩
          · exact ⟨_, (Option.some.inj hy).symm, l2⟩
          · simp at hy
        refine ⟨rfl, nV m, rfl, nV n, rfl, _, _, rfl, rfl, _, "int", 0, (n : Int) - 1, rfl, .int _, fun _ => ?_, fun e => (inB_no (by omega) (by omega) e).elim⟩
        refine ⟨_, upd_same, ?_, ?_⟩
        · rw [List.length_map, List.length_replicate]
          have hj : j < 2 := (List.getElem?_eq_some_iff.mp hy).1
          exact small1000 (by omega)
        · rw [upd_upd, List.replicate_succ', List.map_append]
          rfl
      · rintro H' rfl
        refine ⟨L, _, rfl, .inl (.inl upd_same), _, rfl, iteNT (by rfl) ?_⟩
        have s2 := s1.trans (same_upd nL (o := .lst ((List.replicate 2 true).map V.bl)))
        have hb2 := s2 _ _ (sm _ _ (hp b hbm))
        refine ⟨.ref b.1, rfl, b.1, _, 0, nV b.2.1, rfl, rfl, .inl (.inl hb2), atI_nat (j := 0) rfl, .ref b.1, rfl, b.1, _, 1, nV b.2.2, rfl, rfl, .inl (.inl hb2), atI_nat (j := 1) rfl, _, _, rfl, rfl, _, rfl, iteB (decide_eq_false (by omega)) ?_⟩
        refine ⟨nV i, rfl, _, _, rfl, rfl, _, rfl, ?_⟩
        refine ite2 (fun e1 => ?_) (fun e1 => ?_)
        · have hi : 0 < i := by
            have := of_decide_eq_true e1
            omega
          obtain ⟨k, rfl⟩ : ∃ k, i = k + 1 := ⟨i - 1, by omega⟩
          have hkl : k < ps.length := by
            have := (List.getElem?_eq_some_iff.mp hb).1
            omega
          have hk := List.getElem?_eq_getElem hkl
          have hkm := List.mem_of_getElem? hk
          have hk2 := s2 _ _ (sm _ _ (hp _ hkm))
          have asc := List.pairwise_iff_getElem.mp hh.asc k (k + 1) (by rw [List.length_map]; exact hkl) (by rw [List.length_map]; exact (List.getElem?_eq_some_iff.mp hb).1) (Nat.lt_succ_self k)
          rw [List.getElem_map, List.getElem_map, (List.getElem?_eq_some_iff.mp hb).2] at asc
          refine ⟨.ref d, rfl, nV (k + 1), rfl, ((k + 1 : Nat) : Int), 1, rfl, rfl, d, refs ps, ((k + 1 : Nat) : Int) - 1, .ref ps[k].1, rfl, rfl, .inl (.inl (s2 _ _ (sm _ _ hd))), at_of (by omega) (at_map hk), .ref b.1, rfl, _, _, [(ps[k].2.1 : Int), (ps[k].2.2 : Int)], [(b.2.1 : Int), (b.2.2 : Int)], rfl, rfl, .inl (.inl hk2), .inl (.inl hb2), _, rfl, iteB (lexGe2 asc) ?_⟩
          exact ⟨_, _, _, rfl, sm.trans s2⟩
        · exact iteF ⟨_, _, _, rfl, sm.trans s2⟩
    · rintro σ H' ⟨v2, v3, v4, rfl, sm⟩
      exact q H' sm
theorem scNeedHouse : FnScope ["house"] ["house"] (defScope sNeedHouse) := ⟨rfl, rfl, rfl, by decide +kernel, rfl, by decide +kernel, by decide +kernel⟩
def spNeedHouse : Sp := fun vs H Q _ => ∃ (a : Addr) (n : Nat) (ds : List (Nat × Nat)), vs = [.ref a] ∧ HouseAt H a n ds ∧ ∀ H', Same H H' → Q .non H'
theorem ok_needHouse (D : Df K mg "need_house" sNeedHouse ["house"]) (B : Blt mg) (C1 : Cal P w K mg base 1 "is_list" psNum spIsList) (C2 : Cal P w K mg base 2 "is_in" psNum spIsIn) (C3 : Cal P w K mg base 3 "need_doors" ["size", "doors"] spNeedDoors) :
    Cal P w K mg base 4 "need_house" ["house"] spNeedHouse := by
  obtain ⟨mt, hm⟩ := B.most
  refine D.cal scNeedHouse (fun vs H Q E h => ?_) (fun f cdv A outer s H vs Q E hr h => ?_)
  · obtain ⟨a, n, ds, rfl, _⟩ := h
    rfl
  · obtain ⟨a, n, ds, rfl, hh, q⟩ := h
    refine ⟨_, pss_cons (ps_if (pt_not (pt_val (pe_cal C1 hr (by decide) (pa_cons (pv 0) (pa_cons pe_int (pa_cons pe_int pa_nil)))))) pss_never pss_nil)
      (pss_cons (ps_if (pt_not (pt_val (pe_cal C2 hr (by decide) (pa_cons (pe_ix ix_tup (pv 0) pe_int (fun _ _ => rfl)) (pa_cons pe_int (pa_cons (pe_glob (v := .int 8) (by rfl) hm ⟨_, rfl⟩) pa_nil)))))) pss_never pss_nil)
      (pss_one (ps_expr (pe_cal C3 hr (by decide) (pa_cons (pe_ix ix_tup (pv 0) pe_int (fun _ _ => rfl)) (pa_cons (pe_ix ix_tup (pv 0) pe_int (fun _ _ => rfl)) pa_nil)))))), ?_⟩
    obtain ⟨d, ps, h1, h2, h3, h4⟩ := hh.ex
    have p1 := hh.ok.pos
    have p2 := hh.ok.le
    refine ⟨.ref a, rfl, _, "tuple", 2, 2, rfl, .tup h1, fun n => absurd rfl n, tupIs h1 ⟨_, rfl, iteNT (by rfl) ?_⟩⟩
    refine ⟨.ref a, rfl, a, _, 0, nV n, rfl, rfl, .inl (.inl h1), atI_nat (j := 0) rfl, _, "int", 1, 8, rfl, .int _, fun _ => ⟨_, rfl, iteF ?_⟩, fun e => (inB_no (by omega) (by omega) e).elim⟩
    refine ⟨.ref a, rfl, a, _, 0, nV n, rfl, rfl, .inl (.inl h1), atI_nat (j := 0) rfl, .ref a, rfl, a, _, 1, .ref d, rfl, rfl, .inl (.inl h1), atI_nat (j := 1) rfl, d, n, ps, rfl, h2, h4, ?_, fun H' sm => q H' sm⟩
    rw [h3]
    exact hh.ok
end
end Mx
end MxP2_
section MxP3_
set_option Elab.async false
set_option linter.all false
set_option maxRecDepth 100000
set_option maxHeartbeats 1000000
namespace Mx
open PySem PySem.Spec PyProof.Rows L2
theorem nV_map (row : List Nat) : (row.map fun (k : Nat) => (k : Int)).map V.int = row.map nV := by
  rw [List.map_map]
  rfl
theorem perm_nat {ns : List Int} {row : List Nat} (h : ns.Perm (row.map fun (k : Nat) => (k : Int))) : (ns.map Int.toNat).Perm row ∧ ns.map V.int = (ns.map Int.toNat).map nV := by
  constructor
  · have q := h.map Int.toNat
    rw [List.map_map] at q
    have e : row.map (Int.toNat ∘ fun (k : Nat) => (k : Int)) = row := by
      conv => rhs; rw [← List.map_id row]
      rfl
    rw [e] at q
    exact q
  · rw [List.map_map]
    refine List.map_congr_left fun z hz => ?_
    obtain ⟨k, _, rfl⟩ := List.mem_map.mp (h.mem_iff.mp hz)
    rfl
section
variable {P : Program} {w : World} {K : PySem.W.Frag} {mg : Str → Option Value} {base : Heap}
def spNear : Sp := fun vs H Q _ => ∃ (a : Addr) (n : Nat) (ds : List (Nat × Nat)), vs = [.ref a] ∧ HouseAt H a n ds ∧ ∀ H' p, Same H H' → H p = none → RowsAt H' p n (adjOf ds) → Q (.ref p) H'
theorem scNear : FnScope ["house", "found", "one", "other", "room", "row"] ["house"] (defScope sNear) := ⟨rfl, rfl, rfl, by decide +kernel, rfl, by decide +kernel, by decide +kernel⟩
theorem ok_near (D : Df K mg "near" sNear ["house"]) (B : Blt mg) : Cal P w K mg base 1 "near" ["house"] spNear := by
  refine D.cal scNear (fun vs H Q E h => ?_) (fun f cdv A outer s H vs Q E hr h => ?_)
  · obtain ⟨a, n, ds, rfl, _⟩ := h
    rfl
  · obtain ⟨a, n, ds, rfl, hh, q⟩ := h
    refine ⟨_, pss_cons (ps_setLc (i := 1) (own := [("room", 4)]) (g := gName 4) (tt := tYes) rfl scNear.nd rfl rfl (sw_true rfl rfl rfl (by decide +kernel)) (pi_range1 (by rfl) B.range (pa_cons (pe_ix ix_tup (pv 0) pe_int (fun _ _ => rfl)) pa_nil))
        (blkOk_by (N := ["house", "found", "one", "other", "room", "row"]) (sc := defScope sNear) (by decide +kernel)) (fun _ _ _ _ _ => pg_name (i := 4) scNear.nd rfl (.inl rfl)) (fun _ _ _ _ _ => pts_nil) (fun _ _ _ _ _ => pe_lst pa_nil))
      (pss_cons (ps_for PassesOwn.never rfl (pi_tup (pe_ix ix_tup (pv 0) pe_int (fun _ _ => rfl))) (pg_tup rfl (pgs_cons (pg_name (i := 2) scNear.nd rfl (.inl rfl)) (pgs_cons (pg_name (i := 3) scNear.nd rfl (.inl rfl)) pgs_nil)))
        (pss_cons (ps_expr (pe_bm PySem.F.plainAttrs_list PySem.F.slot_list_append PySem.F.type_list_append mt_append (pe_ix ix_list (pv 1) (pv 2) (fun _ _ => rfl)) (pa_cons (pv 3) pa_nil)))
        (pss_one (ps_expr (pe_bm PySem.F.plainAttrs_list PySem.F.slot_list_append PySem.F.type_list_append mt_append (pe_ix ix_list (pv 1) (pv 3) (fun _ _ => rfl)) (pa_cons (pv 2) pa_nil))))))
      (pss_one (ps_ret (pe_lc (own := [("row", 5)]) (g := gName 5) (tt := tYes) rfl scNear.nd (pi_list (pv 1)) (blkOk_by (N := ["house", "found", "one", "other", "room", "row"]) (sc := defScope sNear) (by decide +kernel))
        (fun _ _ _ _ _ => pg_name (i := 5) scNear.nd rfl (.inl rfl)) (fun _ _ _ _ _ => pts_nil) (fun _ _ _ _ _ => pe_callB (id := "sorted") (r := rSorted K) cr_sorted (by rfl) B.sorted (by decide +kernel) (pa_cons (pv 5) pa_nil)))))), ?_⟩
    obtain ⟨d, ps, h1, h2, h3, h4⟩ := hh.ex
    have p1 := hh.ok.pos
    have p2 := hh.ok.le
    have p3 := hh.ok.many
    -- found = [[] for room in range(house[0])]
    refine ⟨.ref a, rfl, a, _, 0, nV n, rfl, rfl, .inl (.inl h1), atI_nat (j := 0) rfl, n, rfl, by omega, by omega, fun F nF => lc_range (lo := 0) (n := n)
      (fun i H' => ∃ qs : List Addr, qs.length = i ∧ Grows H H' F qs fun _ => []) ⟨[], rfl, Grows.start nF⟩ ?_ ?_⟩
    · rintro i H' hi ⟨qs, hl, g⟩
      refine ⟨rfl, Nat.zero_le _, fun r nr => ?_⟩
      have nFr : F ≠ r := ne_of_none g.at_ nr
      refine ⟨_, (upd_ne nFr).trans g.at_, ?_, qs ++ [r], by rw [List.length_append, hl]; rfl, g.more nr⟩
      rw [List.length_map, hl]
      exact small1000 (by omega)
    rintro H1 ⟨qs, hl, g⟩
    -- the doors
    refine ⟨.ref a, rfl, a, _, 1, .ref d, rfl, rfl, .inl (.inl (g.same _ _ h1)), atI_nat (j := 1) rfl, d, rfl, ⟨_, .inl (.inl (g.same _ _ h2))⟩, for_tup (K := K) (a := d) (xs := refs ps)
      (fun i σ H' => ∃ v2 v3, σ = [some (.ref a), some (.ref F), v2, v3, none, none] ∧ Grows H H' F qs (rowsOf (ds.take i))) ⟨none, none, rfl, g⟩ (fun i σ H' _ ⟨_, _, _, g⟩ => .inl (.inl (g.same _ _ h2))) ?_ ?_⟩
    · rintro i x σ H2 hx ⟨v2, v3, rfl, g⟩
      obtain ⟨b, hb, rfl⟩ := map_at hx
      have hbm := List.mem_of_getElem? hb
      have hbd : b.2 ∈ ds := by
        rw [← h3]
        exact List.mem_map.mpr ⟨b, hbm, rfl⟩
      obtain ⟨l1, l2⟩ := hh.ok.lt b.2 hbd
      have e1 : qs[b.2.1]? = some qs[b.2.1] := List.getElem?_eq_getElem (by omega)
      have e2 : qs[b.2.2]? = some qs[b.2.2] := List.getElem?_eq_getElem (by omega)
      have g1 := g.app (j := b.2.2) e1
      have g2 := g1.app (j := b.2.1) e2
      have lenr : ∀ k, (rowsOf (ds.take i) k).length ≤ 56 := fun k => by
        have := rowsOf_len k _ (ds.take i) rfl
        have := List.length_take (i := i) (l := ds)
        omega
      have hd1 : ds[i]? = some b.2 := by
        rw [← h3]
        exact at_map hb
      refine ⟨b.1, dV b.2, rfl, .inl (.inl (g.same _ _ (h4 b hbm))), rfl, nV b.2.1, [nV b.2.2], rfl, nV b.2.2, [], rfl, rfl, ?_⟩
      refine ⟨.ref F, rfl, nV b.2.1, rfl, F, _, _, .ref qs[b.2.1], rfl, rfl, SqL.of g.at_, atI_nat (at_map e1), .inl ⟨rfl, _, SqL.of (g.row _ _ e1)⟩, nV b.2.2, rfl, _, _, _, rfl, rfl, g.row _ _ e1, ?_, ?_⟩
      · rw [List.length_map]
        have := lenr b.2.1
        exact small1000 (by omega)
      · refine ⟨.ref F, rfl, nV b.2.2, rfl, F, _, _, .ref qs[b.2.2], rfl, rfl, SqL.of g1.at_, atI_nat (at_map e2), .inl ⟨rfl, _, SqL.of (g1.row _ _ e2)⟩, nV b.2.1, rfl, _, _, _, rfl, rfl, g1.row _ _ e2, ?_, ?_⟩
        · rw [List.length_map]
          have := lenr b.2.2
          have := len_bump (f := rowsOf (ds.take i)) (i := b.2.1) (j := b.2.2) (k := b.2.2)
          exact small1000 (by omega)
        · refine ⟨_, _, rfl, ?_⟩
          rw [take_at hd1, rowsOf_snoc]
          exact g2
    · rintro σ H2 ⟨v2, v3, rfl, g⟩
      have e3 : ds.take (refs ps).length = ds := by
        refine List.take_of_length_le ?_
        rw [← h3, List.length_map, List.length_map]
        exact Nat.le_refl _
      rw [e3] at g
      obtain ⟨rs, r1, r2, r3, r4, r5⟩ := (g.rows hl p3).ex
      -- return [sorted(row) for row in found]
      refine ⟨.ref F, rfl, F, rfl, ⟨_, SqL.of r1⟩, fun L nL => lc_list (K := K) (a := F) (xs := refs rs)
        (fun i H' => ∃ out : Tups, Same H2 H' ∧ H' L = some (.lst (refs out)) ∧ out.length = i ∧ ListsOk H' out ∧ (∀ b ∈ out, b.1 ≠ L ∧ b.2.length ≤ 100) ∧ ∀ (k : Nat) (b : Addr × List Nat), out[k]? = some b → ∀ j, j ∈ b.2 ↔ adjOf ds k j = true)
        ⟨[], same_upd nL, upd_same, rfl, (by intro b hb; cases hb), (by intro b hb; cases hb), (by intro k b e; simp at e)⟩ (fun i H' _ ⟨_, sm, _⟩ => .inl (.inl (sm _ _ r1))) ?_ ?_⟩
      · rintro i x H' hx ⟨out, sm, o1, o2, o3, o4, o5⟩
        obtain ⟨b, hb, rfl⟩ := map_at hx
        have hbm := List.mem_of_getElem? hb
        refine ⟨rfl, .ref b.1, rfl, b.1, b.2.map (fun (k : Nat) => (k : Int)), rfl, SqL.of ?_, ?_, fun ns p perm rising np => ?_⟩
        · rw [nV_map]
          exact sm _ _ (r3 b hbm)
        · rw [List.length_map]
          obtain ⟨qa, e4⟩ : ∃ qa, qs[i]? = some qa := by
            have hi : i < qs.length := by
              have := (List.getElem?_eq_some_iff.mp hb).1
              omega
            exact ⟨_, List.getElem?_eq_getElem hi⟩
          have w1 := g.row i qa e4
          have w2 : (refs rs)[i]? = some (.ref qa) := by
            have := g.at_
            rw [r1] at this
            injection (Option.some.inj this) with this
            rw [this]
            exact at_map e4
          rw [hx] at w2
          injection (Option.some.inj w2) with w3
          have w4 := r3 b hbm
          rw [w3, w1] at w4
          injection (Option.some.inj w4) with w5
          have w6 := congrArg List.length w5
          rw [List.length_map, List.length_map] at w6
          have := rowsOf_len i _ ds rfl
          omega
        · obtain ⟨m1, m2⟩ := perm_nat perm
          have nLp : L ≠ p := ne_of_none o1 np
          refine ⟨refs out, (upd_ne nLp).trans o1, ?_, out ++ [(p, ns.map Int.toNat)], fun c o e => ?_, ?_, by rw [List.length_append, o2]; rfl, fun c hc => ?_, fun c hc => ?_, fun k c e j => ?_⟩
          · rw [List.length_map, o2]
            have := (List.getElem?_eq_some_iff.mp hb).1
            exact small1000 (by omega)
          · rw [upd_ne (ne_of_none e nL), upd_ne (ne_of_none (sm _ _ e) np)]
            exact sm _ _ e
          · rw [upd_same, refs_snoc]
          · rcases List.mem_append.mp hc with z | z
            · rw [upd_ne (o4 c z).1, upd_ne (ne_of_none (o3 c z) np)]
              exact o3 c z
            · rw [List.mem_singleton.mp z, upd_ne nLp.symm, upd_same, m2]
          · rcases List.mem_append.mp hc with z | z
            · exact o4 c z
            · rw [List.mem_singleton.mp z]
              refine ⟨nLp.symm, ?_⟩
              rw [m1.length_eq]
              exact r4 b hbm
          · rcases Nat.lt_or_ge k out.length with hk | hk
            · rw [List.getElem?_append_left hk] at e
              exact o5 k c e j
            · rw [List.getElem?_append_right hk] at e
              have ek : k = i := by
                have := (List.getElem?_eq_some_iff.mp e).1
                simp only [List.length_singleton] at this
                omega
              have ec : c = (p, ns.map Int.toNat) := List.mem_singleton.mp (List.mem_of_getElem? e)
              subst ec ek
              rw [m1.mem_iff]
              exact r5 k b hb j
      · rintro H' ⟨out, sm, o1, o2, o3, o4, o5⟩
        rw [List.length_map, r2] at o2
        exact q H' L (g.same.trans sm) (g.same.free nL) ⟨out, o1, o2, o3, fun b hb => (o4 b hb).2, o5⟩
end
end Mx
end MxP3_
section MxP4_
set_option Elab.async false
set_option linter.all false
set_option maxRecDepth 100000
set_option maxHeartbeats 1000000
namespace Mx
open PySem PySem.Spec PyProof.Rows L2
abbrev scp (ns : List (Str × NameKind)) : Scope := { kind := .function, names := ns, isGenerator := false, isCoroutine := false }
section
variable {P : Program} {w : World} {K : PySem.W.Frag} {mg : Str → Option Value} {base : Heap}
def spIsLargest : Sp := fun vs H Q _ => ∃ (p ra sa : Addr) (n : Nat) (adj : Adj) (R S : List Nat), vs = [.ref p, .ref ra, .ref sa] ∧ RowsAt H p n adj ∧ H ra = some (.tup (R.map nV)) ∧ (∀ r ∈ R, r < n) ∧ R.length ≤ 100 ∧ H sa = some (.tup (S.map nV)) ∧
  ∀ H', Same H H' → Q (.bl (isMax adj R S)) H'
abbrev nLgst : List Str := ["rows", "rooms", "some", "room", "other"]
theorem scIsLargest : FnScope nLgst ["rows", "rooms", "some"] (defScope sIsLargest) := ⟨rfl, rfl, rfl, by decide +kernel, rfl, by decide +kernel, by decide +kernel⟩
theorem ok_isLargest (D : Df K mg "is_largest" sIsLargest ["rows", "rooms", "some"]) (B : Blt mg) : Cal P w K mg base 1 "is_largest" ["rows", "rooms", "some"] spIsLargest := by
  refine D.cal scIsLargest (fun vs H Q E h => ?_) (fun f cdv A outer s H vs Q E hr h => ?_)
  · obtain ⟨p, ra, sa, n, adj, R, S, rfl, _⟩ := h
    rfl
  · obtain ⟨p, ra, sa, n, adj, R, S, rfl, hp, hR, hRn, hRl, hS, q⟩ := h
    refine ⟨_, pss_one (ps_ret (pe_callB (cr_all rfl) (by rfl) B.all (by decide +kernel) (pa_cons (pe_lc (own := [("room", 3)]) (g := gName 3) (tt := tYes) rfl scIsLargest.nd (pi_tup (pv 1)) (blkOk_by (N := nLgst) (sc := defScope sIsLargest) (by decide +kernel))
      (fun _ _ _ _ _ => pg_name (i := 3) scIsLargest.nd rfl (.inl rfl)) (fun _ _ _ _ _ => pts_nil)
      (fun _ _ _ _ _ => pe_or (pe_cmpR (r := rIn K false) op_in_seq (pv 3) (pv 2) rfl) (pe_one (pe_callB (id := "any") (r := rAny K) (cr_any rfl) (by rfl) B.any (by decide +kernel)
        (pa_cons (pe_lc (own := [("other", 4)]) (wi := iList K (tOp (rIxL K) (tVar 0) (tVar 3))) (g := gName 4) (tt := tYes) rfl scIsLargest.nd (pi_list (pe_ix (r := rIxL K) ix_list (pv 0) (pv 3) (fun _ _ => rfl)))
          (blkOk_by (N := nLgst) (sc := relS (scp [(".0", .local), ("room", .local), ("any", .globalImplicit), ("rows", .free), ("some", .free)]) (defScope sIsLargest)) (by decide +kernel))
          (fun _ _ _ _ _ => pg_name (i := 4) scIsLargest.nd rfl (.inl rfl)) (fun _ _ _ _ _ => pts_nil) (fun _ _ _ _ _ => pe_cmpR (r := rIn K false) op_in_seq (pv 4) (pv 2) rfl)) pa_nil))))) pa_nil))), ?_⟩
    refine ⟨.ref ra, rfl, ra, rfl, ⟨_, SqT.of hR⟩, fun L nL => lc_tup (K := K) (a := ra) (xs := R.map nV) (PM H L fun i => ((R.take i).map fun r => S.contains r || S.any (adj r)).map V.bl)
      (PM.start nL) (fun i H' _ h => SqT.of (h.1 _ _ hR)) ?_ ?_⟩
    · rintro i x H1 hx pm
      obtain ⟨r, hr1, rfl⟩ := map_at hx
      have hrn := hRn r (List.mem_of_getElem? hr1)
      have hi := ix_lt hr1
      have hsz : (((R.take i).map fun r => S.contains r || S.any (adj r)).map V.bl).length < sizeLine := by
        rw [List.length_map, List.length_map, List.length_take]
        exact small1000 (by omega)
      have nxt : ((R.take (i + 1)).map fun r => S.contains r || S.any (adj r)).map V.bl = ((R.take i).map fun r => S.contains r || S.any (adj r)).map V.bl ++ [.bl (S.contains r || S.any (adj r))] := by
        rw [take_at hr1, List.map_append, List.map_append]
        rfl
      refine ⟨rfl, nV r, rfl, .ref sa, rfl, sa, S.map nV, rfl, .inr (SqT.of (pm.1 _ _ hS)), rfl, flat_nats S, S.contains r, by show V.bl (inV (nV r) (S.map nV)) = _; rw [inV_nat], ?_⟩
      by_cases hc : S.contains r = true
      · refine iteA hc ?_
        have e : (S.contains r || S.any (adj r)) = true := by rw [hc]; rfl
        rw [e] at nxt
        exact pm.step nL (Same.refl _) nxt hsz
      · refine iteB (eq_false_of_ne_true hc) ?_
        obtain ⟨xs, ro, row, r1, r2, r3, r4, r5, r6⟩ := (hp.same pm.1).row hrn
        refine ⟨.ref p, rfl, nV r, rfl, p, xs, _, .ref ro, rfl, rfl, SqL.of r1, atI_nat r3, ro, rfl, ⟨_, SqL.of r4⟩, fun L2 nL2 => lc_list (K := K) (a := ro) (xs := row.map nV) (PM H1 L2 fun j => ((row.take j).map fun o => S.contains o).map V.bl)
          (PM.start nL2) (fun j H' _ h => SqL.of (h.1 _ _ r4)) ?_ ?_⟩
        · rintro j y H2 hy pm2
          obtain ⟨o, ho, rfl⟩ := map_at hy
          refine ⟨rfl, nV o, rfl, .ref sa, rfl, sa, S.map nV, rfl, .inr (SqT.of (pm2.1 _ _ (pm.1 _ _ hS))), rfl, flat_nats S, ?_⟩
          refine pm2.step nL2 (Same.refl _) ?_ ?_
          · show _ = _ ++ [V.bl (inV (nV o) (S.map nV))]
            rw [take_at ho, List.map_append, List.map_append, inV_nat]
            rfl
          · rw [List.length_map, List.length_map, List.length_take]
            exact small1000 (by omega)
        · rintro H2 pm2
          have pm3 := pm2.fin (l := (row.map fun o => S.contains o).map V.bl) (by rw [take_all])
          refine ⟨L2, _, rfl, SqL.of pm3, ?_⟩
          rw [any_row r6]
          have e : (S.contains r || S.any (adj r)) = S.any (adj r) := by rw [eq_false_of_ne_true hc]; rfl
          rw [e] at nxt
          exact pm.step nL pm2.1 nxt hsz
    · rintro H1 pm
      have pm3 := pm.fin (l := (R.map fun r => S.contains r || S.any (adj r)).map V.bl) (by rw [take_all])
      refine ⟨L, _, rfl, SqL.of pm3, ?_⟩
      have e3 : (R.map fun r => S.contains r || S.any (adj r)).all id = isMax adj R S := by
        rw [List.all_map]
        rfl
      rw [e3]
      exact q H1 pm.1
end
end Mx
end MxP4_
section MxP5_
set_option Elab.async false
set_option linter.all false
set_option maxRecDepth 100000
set_option maxHeartbeats 1000000
namespace Mx
open PySem PySem.Spec PyProof.Rows L2
section
variable {P : Program} {w : World} {K : PySem.W.Frag} {mg : Str → Option Value} {base : Heap}
def spLargestIn : Sp := fun vs H Q _ => ∃ (p ra : Addr) (n : Nat) (adj : Adj) (R : List Nat), vs = [.ref p, .ref ra] ∧ RowsAt H p n adj ∧ H ra = some (.tup (R.map nV)) ∧ (∀ r ∈ R, r < n) ∧ R.length ≤ 6 ∧ R ≠ [] ∧
  ∀ H' l (bs : Tups), Same H H' → H l = none → H' l = some (.lst (refs bs)) → TupsOk H' bs → (dat bs).Perm (mx adj R) → Q (.ref l) H'
abbrev nLin : List Str := ["rows", "rooms", "found", "room", "some", "other"]
theorem scLargestIn : FnScope nLin ["rows", "rooms"] (defScope sLargestIn) := ⟨rfl, rfl, rfl, by decide +kernel, rfl, by decide +kernel, by decide +kernel⟩
theorem foldl_take_succ {α β : Type} {f : β → α → β} {b : β} {l : List α} {i : Nat} {a : α} (h : l[i]? = some a) : (l.take (i + 1)).foldl f b = f ((l.take i).foldl f b) a := by
  rw [take_at h, List.foldl_append]
  rfl
theorem lst_ne_nums {bs : Tups} {row : List Nat} (h : bs ≠ []) : HO.lst (refs bs) ≠ HO.lst (row.map nV) := by
  intro e
  injection e with e
  cases bs with
  | nil => exact h rfl
  | cons b bs =>
    cases row with
    | nil => cases e
    | cons r row => cases e
theorem ok_largestIn (D : Df K mg "largest_in" sLargestIn ["rows", "rooms"]) (B : Blt mg) (C : Cal P w K mg base 1 "is_largest" ["rows", "rooms", "some"] spIsLargest) : Cal P w K mg base 2 "largest_in" ["rows", "rooms"] spLargestIn := by
  refine D.cal scLargestIn (fun vs H Q E h => ?_) (fun f cdv A outer s H vs Q E hr h => ?_)
  · obtain ⟨p, ra, n, adj, R, rfl, _⟩ := h
    rfl
  · obtain ⟨p, ra, n, adj, R, rfl, hp, hR, hRn, hRl, hne, q⟩ := h
    refine ⟨_, pss_cons (ps_set (i := 2) scLargestIn.nd rfl (.inl rfl) (pe_lst (pa_cons (pe_tup pa_nil) pa_nil)))
      (pss_cons (ps_for PassesOwn.never rfl (pi_tup (pv 1)) (pg_name (i := 3) scLargestIn.nd rfl (.inr rfl))
        (pss_one (ps_expr (pe_bm PySem.F.plainAttrs_list PySem.F.slot_list_extend PySem.F.type_list_extend mt_extend (pv 2) (pa_cons
          (pe_lc (own := [("some", 4)]) (g := gName 4) (te := tTup (StX.tStar K (tVar 4) (tCons (tVar 3) tNil))) rfl scLargestIn.nd (pi_list (pv 2)) (blkOk_by (N := nLin) (sc := defScope sLargestIn) (by decide +kernel))
            (fun _ _ _ _ _ => pg_name (i := 4) scLargestIn.nd rfl (.inr rfl))
            (fun _ _ _ _ _ => pts_one (pt_not (pt_val (pe_callB (id := "any") (r := rAny K) (cr_any rfl) (by rfl) B.any (by decide +kernel) (pa_cons
              (pe_lc (own := [("other", 5)]) (wi := iList K (tOp (rIxL K) (tVar 0) (tVar 3))) (g := gName 5) (tt := tYes) rfl scLargestIn.nd (pi_list (pe_ix (r := rIxL K) ix_list (pv 0) (pv 3) (fun _ _ => rfl)))
                (blkOk_by (N := nLin) (sc := relS (scp [(".0", .local), ("some", .cell), ("any", .globalImplicit), ("room", .free), ("rows", .free)]) (defScope sLargestIn)) (by decide +kernel))
                (fun _ _ _ _ _ => pg_name (i := 5) scLargestIn.nd rfl (.inl rfl)) (fun _ _ _ _ _ => pts_nil) (fun _ _ _ _ _ => pe_cmpR (r := rIn K false) op_in_seq (pv 5) (pv 4) rfl)) pa_nil)))))
            (fun _ _ _ _ _ => pe_tup (StX.pa_star (te := tVar 4) (t := tCons (tVar 3) tNil) (pv 4) (pa_cons (pv 3) pa_nil)))) pa_nil)))))
      (pss_one (ps_ret (pe_callB (cr_sortN hr.units) (by rfl) B.sorted (by decide +kernel) (pa_cons
        (pe_lc (own := [("some", 4)]) (g := gName 4) rfl scLargestIn.nd (pi_list (pv 2)) (blkOk_by (N := nLin) (sc := defScope sLargestIn) (by decide +kernel))
          (fun _ _ _ _ _ => pg_name (i := 4) scLargestIn.nd rfl (.inl rfl)) (fun _ _ _ _ _ => pts_one (pt_val (pe_cal C hr (by decide) (pa_cons (pv 0) (pa_cons (pv 1) (pa_cons (pv 4) pa_nil))))))
          (fun _ _ _ _ _ => pv 4)) pa_nil))))), ?_⟩
    -- found = [()]
    refine ⟨Nat.zero_le _, fun e ne => ⟨by show 1 ≤ sizeLine; decide, fun F nF => ?_⟩⟩
    have nEF : e ≠ F := fun z => by
      rw [z, upd_same] at nF
      cases nF
    have nF0 : H F = none := (same_upd ne).free nF
    have s0 : Same H (upd (upd H e (.tup [])) F (.lst [.ref e])) := (same_upd ne).trans (same_upd nF)
    refine ⟨.ref ra, rfl, ra, rfl, ⟨_, SqT.of (s0 _ _ hR)⟩, for_tup (K := K) (a := ra) (xs := R.map nV)
      (fun i σ H' => ∃ (bs : Tups) (v3 : Option V), σ = [some (.ref p), some (.ref ra), some (.ref F), v3, none, none] ∧ Same H H' ∧ H' F = some (.lst (refs bs)) ∧ TupsOk H' bs ∧ dat bs = (R.take i).foldl (grow adj) [[]])
      ⟨[(e, [])], none, rfl, s0, upd_same, ?_, rfl⟩ (fun i σ H' _ ⟨_, _, _, sm, _⟩ => SqT.of (sm _ _ hR)) ?_ ?_⟩
    · intro b hb
      rw [List.mem_singleton] at hb
      subst hb
      exact (upd_ne nEF).trans upd_same
    · rintro i x σ H1 hx ⟨bs, v3, rfl, sm, hF, hbs, hd⟩
      obtain ⟨r, hr1, rfl⟩ := map_at hx
      have hrn := hRn r (List.mem_of_getElem? hr1)
      have hi := ix_lt hr1
      have lbs : bs.length ≤ 64 := by
        have q1 := congrArg List.length hd
        rw [List.length_map] at q1
        have q2 := cand_len adj (R.take i)
        unfold cand at q2
        have q3 : 2 ^ (R.take i).length ≤ 2 ^ 6 := Nat.pow_le_pow_right (by decide) (by rw [List.length_take]; omega)
        omega
      obtain ⟨xs, ro, row, r1, r2, r3, r4, r5, r6⟩ := (hp.same sm).row hrn
      refine ⟨.ref F, rfl, .inl ⟨rfl, _, SqL.of hF⟩, .ref F, rfl, F, rfl, ⟨_, SqL.of hF⟩, fun L nL => lc_list (K := K) (a := F) (xs := refs bs)
        (fun j H' => ∃ cs : Tups, Same H1 H' ∧ H' L = some (.lst (refs cs)) ∧ TupsOk H' cs ∧ cs.length ≤ j ∧ dat cs = (((dat bs).take j).filter fun s => !s.any (adj r)).map (· ++ [r]))
        ⟨[], same_upd nL, upd_same, (by intro b hb; cases hb), Nat.le_refl _, by simp⟩ (fun j H' _ ⟨_, s1, _⟩ => SqL.of (s1 _ _ hF)) ?_ ?_⟩
      · rintro j y H2 hy ⟨cs, s1, c1, c2, c3, c4⟩
        obtain ⟨b, hb, rfl⟩ := map_at hy
        have hbm := List.mem_of_getElem? hb
        have hj := ix_lt hb
        have hbt := s1 _ _ (hbs b hbm)
        have hdj : (dat bs)[j]? = some b.2 := at_map hb
        refine ⟨rfl, .ref p, rfl, nV r, rfl, p, xs, _, .ref ro, rfl, rfl, SqL.of (s1 _ _ r1), atI_nat r3, ro, rfl, ⟨_, SqL.of (s1 _ _ r4)⟩, fun M nM => lc_list (K := K) (a := ro) (xs := row.map nV) (PM H2 M fun k => ((row.take k).map fun o => b.2.contains o).map V.bl)
          (PM.start nM) (fun k H' _ h => SqL.of (h.1 _ _ (s1 _ _ r4))) ?_ ?_⟩
        · rintro k z H3 hz pm2
          obtain ⟨o, ho, rfl⟩ := map_at hz
          refine ⟨rfl, nV o, rfl, .ref b.1, rfl, b.1, b.2.map nV, rfl, .inr (SqT.of (pm2.1 _ _ hbt)), rfl, flat_nats _, ?_⟩
          refine pm2.step nM (Same.refl _) ?_ ?_
          · show _ = _ ++ [V.bl (inV (nV o) (b.2.map nV))]
            rw [take_at ho, List.map_append, List.map_append, inV_nat]
            rfl
          · rw [List.length_map, List.length_map, List.length_take]
            exact small1000 (by omega)
        · rintro H3 pm2
          have pm3 := pm2.fin (l := (row.map fun o => b.2.contains o).map V.bl) (by rw [take_all])
          refine ⟨M, _, rfl, SqL.of pm3, ?_⟩
          rw [any_row r6]
          refine ⟨_, rfl, ?_⟩
          have nx : ((dat bs).take (j + 1)).filter (fun s => !s.any (adj r)) = ((dat bs).take j).filter (fun s => !s.any (adj r)) ++ (if b.2.any (adj r) = true then [] else [b.2]) := by
            rw [take_at hdj, List.filter_append]
            congr 1
            cases hq : b.2.any (adj r) <;> simp [hq]
          have s2 := s1.trans pm2.1
          by_cases ha : b.2.any (adj r) = true
          · refine iteNT ha ⟨cs, s2, pm2.1 _ _ c1, c2.same pm2.1, by omega, ?_⟩
            rw [nx, if_pos ha, List.append_nil]
            exact c4
          · rw [eq_false_of_ne_true ha]
            refine ⟨.ref b.1, rfl, b.1, b.2.map nV, rfl, .inl (SqT.of (pm2.1 _ _ hbt)), nV r, rfl, ?_, fun t nt => ?_⟩
            · have q1 : b.2 ∈ cand adj (R.take i) := by
                unfold cand
                rw [← hd]
                exact List.mem_map.mpr ⟨b, hbm, rfl⟩
              have q2 := cand_size q1
              rw [List.length_take] at q2
              show (b.2.map nV ++ [nV r]).length ≤ sizeLine
              rw [List.length_append, List.length_map, List.length_singleton]
              exact Nat.le_of_lt (small1000 (by omega))
            · have nLt : L ≠ t := ne_of_none (pm2.1 _ _ c1) nt
              refine ⟨refs cs, (upd_ne nLt).trans (pm2.1 _ _ c1), ?_, cs ++ [(t, b.2 ++ [r])], fun c o ec => ?_, ?_, fun c hc => ?_, ?_, ?_⟩
              · rw [List.length_map]
                exact small1000 (by omega)
              · rw [upd_ne (ne_of_none ec nL), upd_ne (ne_of_none (s2 _ _ ec) nt)]
                exact s2 _ _ ec
              · rw [upd_same, refs_snoc]
              · rcases List.mem_append.mp hc with z | z
                · have q1 := pm2.1 _ _ (c2 c z)
                  rw [upd_ne (tup_ne q1 (pm2.1 _ _ c1)), upd_ne (ne_of_none q1 nt)]
                  exact q1
                · rw [List.mem_singleton.mp z, upd_ne nLt.symm, upd_same, List.map_append]
                  rfl
              · rw [List.length_append, List.length_singleton]
                omega
              · rw [dat_snoc, c4, nx, if_neg ha, List.map_append]
                rfl
      · rintro H2 ⟨cs, s1, c1, c2, c3, c4⟩
        have e1 : (dat bs).take (refs bs).length = dat bs := List.take_of_length_le (by rw [List.length_map, List.length_map]; exact Nat.le_refl _)
        rw [e1] at c4
        rw [List.length_map] at c3
        have hF2 := s1 _ _ hF
        refine ⟨F, L, _, _, rfl, rfl, hF2, c1, ?_, bs ++ cs, _, rfl, ?_, ?_, ?_, ?_⟩
        · rw [List.length_map, List.length_map]
          exact Nat.le_of_lt (small1000 (by omega))
        · intro c o ec
          rw [upd_ne (ne_of_none ec nF0)]
          exact s1 _ _ (sm _ _ ec)
        · rw [upd_same]
          unfold refs
          rw [List.map_append]
        · intro c hc
          have q1 : H2 c.1 = some (.tup (c.2.map nV)) := by
            rcases List.mem_append.mp hc with z | z
            · exact s1 _ _ (hbs c z)
            · exact c2 c z
          rw [upd_ne (tup_ne q1 hF2)]
          exact q1
        · rw [foldl_take_succ hr1, ← hd]
          unfold grow dat
          rw [List.map_append]
          congr 1
    · rintro σ H1 ⟨bs, v3, rfl, sm, hF, hbs, hd⟩
      rw [take_all] at hd
      have hd2 : dat bs = cand adj R := hd
      have lbs : bs.length ≤ 64 := by
        have q1 := congrArg List.length hd2
        rw [List.length_map] at q1
        have q2 := cand_len adj R
        have q3 : 2 ^ R.length ≤ 2 ^ 6 := Nat.pow_le_pow_right (by decide) hRl
        omega
      refine ⟨.ref F, rfl, F, rfl, ⟨_, SqL.of hF⟩, fun L nL => lc_list (K := K) (a := F) (xs := refs bs) (PM H1 L fun j => refs ((bs.take j).filter fun b => isMax adj R b.2)) (PM.start nL) (fun j H' _ h => SqL.of (h.1 _ _ hF)) ?_ ?_⟩
      · rintro j y H2 hy pm
        obtain ⟨b, hb, rfl⟩ := map_at hy
        have hbm := List.mem_of_getElem? hb
        have hj := ix_lt hb
        refine ⟨rfl, .ref p, rfl, .ref ra, rfl, .ref b.1, rfl, p, ra, b.1, n, adj, R, b.2, rfl, (hp.same sm).same pm.1, pm.1 _ _ (sm _ _ hR), hRn, by omega, pm.1 _ _ (hbs b hbm), fun H3 s3 => ?_⟩
        refine ⟨_, rfl, ?_⟩
        have nx : refs ((bs.take (j + 1)).filter fun b => isMax adj R b.2) = refs ((bs.take j).filter fun b => isMax adj R b.2) ++ (if isMax adj R b.2 = true then [V.ref b.1] else []) := by
          rw [take_at hb, List.filter_append]
          unfold refs
          rw [List.map_append]
          congr 1
          cases hq : isMax adj R b.2 <;> simp [hq]
        refine ite2 (fun e1 => ?_) (fun e1 => ?_)
        · rw [if_pos e1] at nx
          refine ⟨.ref b.1, rfl, pm.step nL s3 nx ?_⟩
          rw [List.length_map]
          have := List.length_filter_le (fun b : Addr × List Nat => isMax adj R b.2) (bs.take j)
          rw [List.length_take] at this
          exact small1000 (by omega)
        · rw [if_neg e1, List.append_nil] at nx
          exact pm.skip s3 nx
      · rintro H2 pm
        have pm3 := pm.fin (l := refs (bs.filter fun b => isMax adj R b.2)) (by rw [take_all])
        have hmx : (dat (bs.filter fun b => isMax adj R b.2)) = mx adj R := by
          unfold mx dat
          rw [← hd2, List.filter_map]
          rfl
        refine ⟨L, bs.filter (fun b => isMax adj R b.2), rfl, SqL.of pm3, fun b hb => ⟨pm.1 _ _ (hbs b (List.mem_filter.mp hb).1), ?_⟩, fun out l perm nl => ?_⟩
        · refine mx_ne (adj := adj) (R := R) ?_ hne
          rw [← hmx]
          exact List.mem_map.mpr ⟨b, hb, rfl⟩
        · have s3 : Same H (upd H2 l (.lst (refs out))) := (sm.trans pm.1).trans (same_upd nl)
          refine q _ l out s3 ((sm.trans pm.1).free nl) upd_same (fun b hb => ?_) ?_
          · have q1 := pm.1 _ _ (hbs b (List.mem_filter.mp (perm.mem_iff.mp hb)).1)
            rw [upd_ne (ne_of_none q1 nl)]
            exact q1
          · rw [← hmx]
            exact perm.map _
end
end Mx
end MxP5_
section MxP6_
set_option Elab.async false
set_option linter.all false
set_option maxRecDepth 100000
set_option maxHeartbeats 1000000
namespace Mx
open PySem PySem.Spec PyProof.Rows L2
abbrev Lays := List (Addr × Tups)
def LaysOk (H : Hp) (L : Lays) : Prop := ∀ b ∈ L, H b.1 = some (.tup (refs b.2)) ∧ TupsOk H b.2
abbrev rowsD (L : Lays) : List (List (List Nat)) := L.map fun b => dat b.2
theorem rowsD_snoc (L : Lays) (p : Addr) (t : Tups) : rowsD (L ++ [(p, t)]) = rowsD L ++ [dat t] := by
  unfold rowsD
  rw [List.map_append]
  rfl
/-- what is neither a list nor a dict stays -/
theorem LaysOk.of {H H' : Hp} {L : Lays} (h : LaysOk H L) (k : ∀ b xs, H b = some (.tup xs) → H' b = some (.tup xs)) : LaysOk H' L := fun b hb =>
  ⟨k _ _ (h b hb).1, fun c hc => k _ _ ((h b hb).2 c hc)⟩
theorem tup_same {H H' : Hp} (s : Same H H') : ∀ b xs, H b = some (.tup xs) → H' b = some (.tup xs) := fun b xs e => s _ _ e
theorem tup_upd {H : Hp} {F : Addr} {o o' : HO} (h : H F = some o) (n : ∀ xs, o ≠ .tup xs) : ∀ b xs, H b = some (.tup xs) → upd H F o' b = some (.tup xs) := fun b xs e => by
  rw [upd_ne (ne_of e h fun z => n xs z.symm)]
  exact e
theorem tup_but {H H' : Hp} {d : Addr} {kvs : List (List Key × V)} (h : H d = some (.dT kvs)) (s : But d H H') : ∀ b xs, H b = some (.tup xs) → H' b = some (.tup xs) := fun b xs e =>
  s _ _ (ne_of e h fun z => by cases z) e
structure LaysAt (H : Hp) (a : Addr) (adj : Adj) (R : List Nat) : Prop where
  ex : ∃ L : Lays, H a = some (.lst (refs L)) ∧ LaysOk H L ∧ L.length ≤ lb R.length ∧ ∀ x, x ∈ rowsD L ↔ isLay adj R x
theorem LaysAt.same {H H' : Hp} {a : Addr} {adj : Adj} {R : List Nat} (h : LaysAt H a adj R) (s : Same H H') : LaysAt H' a adj R := by
  obtain ⟨L, h1, h2, h3⟩ := h.ex
  exact ⟨L, s _ _ h1, h2.of (tup_same s), h3⟩
theorem LaysAt.but {H H' : Hp} {a d : Addr} {adj : Adj} {R : List Nat} {kvs : List (List Key × V)} (h : LaysAt H a adj R) (hd : H d = some (.dT kvs)) (s : But d H H') : LaysAt H' a adj R := by
  obtain ⟨L, h1, h2, h3⟩ := h.ex
  exact ⟨L, s _ _ (ne_of h1 hd fun z => by cases z) h1, h2.of (tup_but hd s), h3⟩
theorem LaysAt.upd {H : Hp} {a F : Addr} {adj : Adj} {R : List Nat} {ys zs : List V} (h : LaysAt H a adj R) (hF : H F = some (.lst ys)) (n : a ≠ F) : LaysAt (upd H F (.lst zs)) a adj R := by
  obtain ⟨L, h1, h2, h3⟩ := h.ex
  exact ⟨L, (upd_ne n).trans h1, h2.of (tup_upd hF fun xs z => by cases z), h3⟩
theorem RowsAt.but {H H' : Hp} {p d : Addr} {n : Nat} {adj : Adj} {kvs : List (List Key × V)} (h : RowsAt H p n adj) (hd : H d = some (.dT kvs)) (s : But d H H') : RowsAt H' p n adj := by
  obtain ⟨rs, h1, h2, h3, h4⟩ := h.ex
  exact ⟨rs, s _ _ (ne_of h1 hd fun z => by cases z) h1, h2, fun b hb => s _ _ (ne_of (h3 b hb) hd fun z => by cases z) (h3 b hb), h4⟩
def keyOf (R : List Nat) : List Key := R.map fun (k : Nat) => Sum.inl (k : Int)
theorem keyOf_kV (R : List Nat) : (keyOf R).map kV = R.map nV := by
  unfold keyOf
  rw [List.map_map]
  rfl
theorem keyOf_inj : ∀ {R R' : List Nat}, keyOf R = keyOf R' → R = R'
  | [], [], _ => rfl
  | [], _ :: _, e => by cases e
  | _ :: _, [], e => by cases e
  | a :: R, b :: R', e => by
    have e2 : (Sum.inl (a : Int) : Key) :: keyOf R = Sum.inl (b : Int) :: keyOf R' := e
    injection e2 with e3 e4
    injection e3 with e5
    rw [keyOf_inj e4, Int.ofNat.inj e5]
/-- rows of sets that are kept, at addresses of which A holds -/
structure Known (H : Hp) (d : Addr) (adj : Adj) (c : Nat) (A : Addr → Prop) : Prop where
  ex : ∃ kvs : List (List Key × V), H d = some (.dT kvs) ∧ kvs.length ≤ c ∧ ∀ kv ∈ kvs, ∃ (R : List Nat) (a : Addr), kv.1 = keyOf R ∧ kv.2 = .ref a ∧ A a ∧ LaysAt H a adj R
theorem Known.mono {H : Hp} {d : Addr} {adj : Adj} {c c' : Nat} {A A' : Addr → Prop} (h : Known H d adj c A) (hc : c ≤ c') (hA : ∀ a, (∃ o, H a = some o) → A a → A' a) : Known H d adj c' A' := by
  obtain ⟨kvs, h1, h2, h3⟩ := h.ex
  refine ⟨kvs, h1, Nat.le_trans h2 hc, fun kv hkv => ?_⟩
  obtain ⟨R, a, e1, e2, e3, e4⟩ := h3 kv hkv
  obtain ⟨L, l1, _⟩ := e4.ex
  exact ⟨R, a, e1, e2, hA a ⟨_, l1⟩ e3, e4⟩
theorem Known.same {H H' : Hp} {d : Addr} {adj : Adj} {c : Nat} {A : Addr → Prop} (h : Known H d adj c A) (s : Same H H') : Known H' d adj c A := by
  obtain ⟨kvs, h1, h2, h3⟩ := h.ex
  refine ⟨kvs, s _ _ h1, h2, fun kv hkv => ?_⟩
  obtain ⟨R, a, e1, e2, e3, e4⟩ := h3 kv hkv
  exact ⟨R, a, e1, e2, e3, e4.same s⟩
theorem Known.upd {H : Hp} {d F : Addr} {adj : Adj} {c : Nat} {A : Addr → Prop} {ys zs : List V} (h : Known H d adj c A) (hF : H F = some (.lst ys)) (n : ∀ a, A a → a ≠ F) : Known (upd H F (.lst zs)) d adj c A := by
  obtain ⟨kvs, h1, h2, h3⟩ := h.ex
  refine ⟨kvs, (upd_ne (ne_of h1 hF fun z => by cases z)).trans h1, h2, fun kv hkv => ?_⟩
  obtain ⟨R, a, e1, e2, e3, e4⟩ := h3 kv hkv
  exact ⟨R, a, e1, e2, e3, e4.upd hF (n a e3)⟩
theorem putK_mem {κ : Type} [DecidableEq κ] {kvs : List (κ × V)} {k : κ} {v : V} {p : κ × V} (h : p ∈ putK kvs k v) : p = (k, v) ∨ p ∈ kvs := by
  unfold putK at h
  split at h
  · obtain ⟨q, hq, e⟩ := List.mem_map.mp h
    split at e
    · rename_i e2
      rw [← e2]
      exact .inl e.symm
    · rw [← e]
      exact .inr hq
  · rcases List.mem_append.mp h with z | z
    · exact .inr z
    · exact .inl (List.mem_singleton.mp z)
theorem putK_len {κ : Type} [DecidableEq κ] (kvs : List (κ × V)) (k : κ) (v : V) : (putK kvs k v).length ≤ kvs.length + 1 := by
  unfold putK
  split
  · rw [List.length_map]
    exact Nat.le_succ _
  · rw [List.length_append]
    exact Nat.le_refl _
theorem valV_mem {κ : Type} [DecidableEq κ] {kvs : List (κ × V)} {k : κ} {v : V} (h : valV kvs k = some v) : (k, v) ∈ kvs := by
  unfold valV at h
  cases e : kvs.find? (fun kv => decide (kv.1 = k)) with
  | none =>
    rw [e] at h
    cases h
  | some p =>
    rw [e] at h
    have h1 := List.mem_of_find?_eq_some e
    have h2 : p.1 = k := of_decide_eq_true (List.find?_some (p := fun kv : κ × V => decide (kv.1 = k)) e)
    have h3 : p.2 = v := Option.some.inj h
    rw [← h2, ← h3]
    exact h1
theorem Known.put {H : Hp} {d a : Addr} {adj : Adj} {c : Nat} {A : Addr → Prop} {R : List Nat} {kvs : List (List Key × V)} (h : Known H d adj c A) (hd : H d = some (.dT kvs)) (ha : LaysAt H a adj R) (hA : A a) :
    Known (L2.upd H d (.dT (putK kvs (keyOf R) (.ref a)))) d adj (c + 1) A := by
  obtain ⟨kvs2, h1, h2, h3⟩ := h.ex
  rw [hd] at h1
  cases h1
  refine ⟨_, upd_same, Nat.le_trans (putK_len _ _ _) (Nat.succ_le_succ h2), fun kv hkv => ?_⟩
  rcases putK_mem hkv with rfl | z
  · exact ⟨R, a, rfl, rfl, hA, ha.but hd but_upd⟩
  · obtain ⟨R', a', e1, e2, e3, e4⟩ := h3 kv z
    exact ⟨R', a', e1, e2, e3, e4.but hd but_upd⟩
theorem isLay_nil (adj : Adj) (x : List (List Nat)) : isLay adj [] x ↔ x = [] := by
  cases x with
  | nil => exact ⟨fun _ => rfl, fun _ => rfl⟩
  | cons S m => exact ⟨fun h => absurd rfl h.1, fun h => by cases h⟩
theorem less_eq (R S : List Nat) : less R S = R.filter fun r => !S.contains r := rfl
/-- within the loop over the largest sets bs (at l): found (at F) holds what begins with the first i of them -/
structure LI (H H' : Hp) (d F l : Addr) (adj : Adj) (R : List Nat) (bs : Tups) (c k : Nat) (A : Addr → Prop) (i : Nat) (L : Lays) : Prop where
  b0 : But d H H'
  kF : H' F = some (.lst (refs L))
  kl : H' l = some (.lst (refs bs))
  kb : TupsOk H' bs
  lo : LaysOk H' L
  len : L.length ≤ i * lb k
  mem : ∀ x, x ∈ rowsD L ↔ ∃ S m, S ∈ (dat bs).take i ∧ x = S :: m ∧ isLay adj (less R S) m
  kn : Known H' d adj (c + i * cs k) (fun b => (A b ∨ H b = none) ∧ b ≠ F)
section
variable {P : Program} {w : World} {K : PySem.W.Frag} {mg : Str → Option Value} {base : Heap}
abbrev psLay : List Str := ["rows", "rooms", "known"]
def spLay (m : Nat) : Sp := fun vs H Q _ => ∃ (p ra d : Addr) (n : Nat) (adj : Adj) (R : List Nat) (c : Nat) (A : Addr → Prop), vs = [.ref p, .ref ra, .ref d] ∧ RowsAt H p n adj ∧ H ra = some (.tup (R.map nV)) ∧ (∀ r ∈ R, r < n) ∧ R.length ≤ 6 ∧ R.length < m ∧
  Known H d adj c A ∧ c + cs R.length ≤ 10000000 ∧ ∀ H' a, But d H H' → Known H' d adj (c + cs R.length) (fun b => A b ∨ H b = none) → LaysAt H' a adj R → Q (.ref a) H'
abbrev nLay : List Str := ["rows", "rooms", "known", "found", "some", "rest", "room", "more"]
theorem scLay : FnScope nLay psLay (defScope sLayersFrom) := ⟨rfl, rfl, rfl, by decide +kernel, rfl, by decide +kernel, by decide +kernel⟩
theorem ok_layStep (m : Nat) (D : Df K mg "layers_from" sLayersFrom psLay) (B : Blt mg) (C : Cal P w K mg base 2 "largest_in" ["rows", "rooms"] spLargestIn) (S : Cal P w K mg base (m + 3) "layers_from" psLay (spLay m)) : Cal P w K mg base (m + 4) "layers_from" psLay (spLay (m + 1)) := by
  refine D.cal scLay (fun vs H Q E h => ?_) (fun f cdv A outer s H vs Q E hr h => ?_)
  · obtain ⟨p, ra, d, n, adj, R, c, A, rfl, _⟩ := h
    rfl
  · obtain ⟨p, ra, d, n, adj, R, c, Ad, rfl, hp, hR, hRn, hR6, hRm, hK, hc, q⟩ := h
    refine ⟨_, pss_cons (ps_if (pt_cmpR (op_eqNil hr.units) (pv 1) (pe_tup pa_nil) (nomark _)) (pss_one (ps_ret (pe_lst (pa_cons (pe_tup pa_nil) pa_nil)))) pss_nil)
      (pss_cons (ps_if (pt_cmp (pc_dnotin (hu_of hr) (pv 1) (pv 2)))
        (pss_cons (ps_set (i := 3) scLay.nd rfl (.inl rfl) (pe_lst pa_nil))
        (pss_cons (ps_for PassesOwn.never rfl (pi_list (pe_cal C hr (by omega) (pa_cons (pv 0) (pa_cons (pv 1) pa_nil)))) (pg_name (i := 4) scLay.nd rfl (.inr rfl))
          (pss_cons (ps_set (i := 5) scLay.nd rfl (.inl rfl) (pe_callTy call_tuple_of (by rfl) B.tuple (by decide +kernel) (pa_cons
            (pe_lc (own := [("room", 6)]) (g := gName 6) rfl scLay.nd (pi_tup (pv 1)) (blkOk_by (N := nLay) (sc := defScope sLayersFrom) (by decide +kernel)) (fun _ _ _ _ _ => pg_name (i := 6) scLay.nd rfl (.inl rfl))
              (fun _ _ _ _ _ => pts_one (pt_cmpR (r := rIn K true) op_notIn_seq (pv 6) (pv 4) rfl)) (fun _ _ _ _ _ => pv 6)) pa_nil)))
          (pss_one (ps_expr (pe_bm PySem.F.plainAttrs_list PySem.F.slot_list_extend PySem.F.type_list_extend mt_extend (pv 3) (pa_cons
            (pe_lc (own := [("more", 7)]) (g := gName 7) (tt := tYes) (te := tTup (tCons (tVar 4) (StX.tStar K (tVar 7) tNil))) rfl scLay.nd (pi_list (pe_cal S hr (Nat.le_refl _) (pa_cons (pv 0) (pa_cons (pv 5) (pa_cons (pv 2) pa_nil)))))
              (blkOk_by (N := nLay) (sc := defScope sLayersFrom) (by decide +kernel)) (fun _ _ _ _ _ => pg_name (i := 7) scLay.nd rfl (.inl rfl)) (fun _ _ _ _ _ => pts_nil)
              (fun _ _ _ _ _ => pe_tup (pa_cons (pv 4) (StX.pa_star (te := tVar 7) (t := tNil) (pv 7) pa_nil)))) pa_nil))))))
        (pss_one (ps_dput (hu_of hr) (pv 2) (pv 1) (pv 3) rfl)))) pss_nil)
      (pss_one (ps_ret (pe_dget (hu_of hr) (pv 2) (pv 1) (fun _ _ => rfl))))), ?_⟩
    have sE : ∀ e, H e = none → Same H (upd H e (.tup [])) := fun e ne => same_upd ne
    refine ⟨.ref ra, rfl, Nat.zero_le _, fun e ne => ?_⟩
    have s1 := sE e ne
    refine ⟨ra, e, R.map nV, rfl, rfl, s1 _ _ hR, upd_same, okD_nats R, _, rfl, ?_⟩
    by_cases hR0 : R = []
    · -- return [()]
      subst hR0
      refine ⟨Nat.zero_le _, fun e2 ne2 => ⟨by show 1 ≤ sizeLine; decide, fun F nF => ?_⟩⟩
      have sF := (s1.trans (same_upd ne2 (o := .tup []))).trans (same_upd nF (o := .lst [.ref e2]))
      have nE : e2 ≠ F := fun z => by
        rw [z, upd_same] at nF
        cases nF
      refine q _ F (sBut sF) ((hK.same sF).mono (Nat.le_add_right _ _) fun a _ h => .inl h) ⟨[(e2, [])], upd_same, ?_, Nat.le_refl 1, fun x => ?_⟩
      · intro b hb
        rw [List.mem_singleton] at hb
        subst hb
        exact ⟨(upd_ne nE).trans upd_same, by intro b hb; cases hb⟩
      · rw [isLay_nil]
        simp
    · refine iteB (by cases R with | nil => exact absurd rfl hR0 | cons a b => rfl) ?_
      obtain ⟨kvs, hd, hkl, hall⟩ := (hK.same s1).ex
      have hra := s1 _ _ hR
      have hkey : upd H e (.tup []) ra = some (.tup ((keyOf R).map kV)) := by
        rw [keyOf_kV]
        exact hra
      have hget := DGet.t (k := keyOf R) hd hkey
      refine ⟨.ref ra, rfl, .ref d, rfl, d, _, rfl, hget, _, rfl, ?_⟩
      cases hv : valV kvs (keyOf R) with
      | some v =>
        rw [hv] at hget
        obtain ⟨R', a, e1, e2, hA, hl⟩ := hall _ (valV_mem hv)
        have e3 : R = R' := keyOf_inj e1
        subst e3
        have e4 : v = .ref a := e2
        subst e4
        exact ⟨.ref d, rfl, .ref ra, rfl, d, _, rfl, hget, q _ a (sBut s1) ((hK.same s1).mono (Nat.le_add_right _ _) fun a _ h => .inl h) hl⟩
      | none =>
        refine ⟨Nat.zero_le _, fun F nF => ?_⟩
        have sF := s1.trans (same_upd nF (o := .lst []))
        have nF0 : H F = none := s1.free nF
        obtain ⟨k, hk⟩ : ∃ k, R.length = k + 1 := by
          cases R with
          | nil => exact absurd rfl hR0
          | cons a b => exact ⟨b.length, rfl⟩
        refine ⟨.ref p, rfl, .ref ra, rfl, p, ra, n, adj, R, rfl, hp.same sF, sF _ _ hR, hRn, hR6, hR0, fun H2 l bs s12 nl hl hbs perm => ?_⟩
        have nFl : l ≠ F := fun z => by
          rw [z, upd_same] at nl
          cases nl
        have sH2 := sF.trans s12
        have lbs : bs.length ≤ 2 ^ (k + 1) := by
          have q1 := perm.length_eq
          rw [List.length_map] at q1
          have q2 := mx_len adj R
          rw [hk] at q2
          omega
        have cpos : (k + 1 ≤ 6) := by omega
        have csk : cs R.length = 1 + 2 ^ (k + 1) * cs k := by rw [hk]; rfl
        have lbk : lb R.length = 2 ^ (k + 1) * lb k := by rw [hk]; rfl
        have hF2 : H2 F = some (.lst []) := s12 _ _ upd_same
        have kn0 : Known H2 d adj (c + 0 * cs k) (fun b => (Ad b ∨ H b = none) ∧ b ≠ F) := (hK.mono (A' := fun b => (Ad b ∨ H b = none) ∧ b ≠ F) (by omega) fun a ⟨o, ho⟩ h => ⟨.inl h, ne_of_none ho nF0⟩).same sH2
        refine ⟨l, rfl, ⟨_, SqL.of hl⟩, for_list (K := K) (a := l) (xs := refs bs)
          (fun i σ H' => ∃ (L : Lays) (v4 v5 : Option V), σ = [some (.ref p), some (.ref ra), some (.ref d), some (.ref F), v4, v5, none, none] ∧ LI H H' d F l adj R bs c k Ad i L)
          ⟨[], none, none, rfl, (sBut sH2), hF2, hl, hbs, (by intro b hb; cases hb), Nat.zero_le _, fun x => by simp, kn0⟩
          (fun i σ H' _ ⟨_, _, _, _, li⟩ => SqL.of li.kl) ?_ ?_⟩
        · rintro i x σ H' hx ⟨L, v4, v5, rfl, li⟩
          obtain ⟨b, hb, rfl⟩ := map_at hx
          have hbm := List.mem_of_getElem? hb
          have hib := ix_lt hb
          have hbS : b.2 ∈ mx adj R := perm.mem_iff.mp (List.mem_map.mpr ⟨b, hbm, rfl⟩)
          have hbt := li.kb b hbm
          obtain ⟨kvs', hd', _, _⟩ := li.kn.ex
          have hraH : H' ra = some (.tup (R.map nV)) := by
            obtain ⟨kvs0, hd0, _, _⟩ := hK.ex
            exact tup_but hd0 li.b0 _ _ hR
          have hpH : RowsAt H' p n adj := by
            obtain ⟨kvs0, hd0, _, _⟩ := hK.ex
            exact hp.but hd0 li.b0
          -- rest = tuple([room for room in rooms if room not in some])
          refine ⟨.ref ra, rfl, ra, rfl, ⟨_, SqT.of hraH⟩, fun M nM => lc_tup (K := K) (a := ra) (xs := R.map nV) (PM H' M fun j => (less (R.take j) b.2).map nV) (PM.start nM) (fun j H' _ h => SqT.of (h.1 _ _ hraH)) ?_ ?_⟩
          · rintro j y H3 hy pm
            obtain ⟨r, hr1, rfl⟩ := map_at hy
            have hj := ix_lt hr1
            have nx : (less (R.take (j + 1)) b.2).map nV = (less (R.take j) b.2).map nV ++ (if (!b.2.contains r) = true then [nV r] else []) := by
              unfold less
              rw [take_at hr1, List.filter_append, List.map_append]
              congr 1
              cases hq : b.2.contains r <;> (simp only [List.filter_cons, List.filter_nil, hq]; rfl)
            refine ⟨rfl, nV r, rfl, .ref b.1, rfl, b.1, b.2.map nV, rfl, .inr (SqT.of (pm.1 _ _ hbt)), rfl, flat_nats _, !b.2.contains r, by show V.bl (!inV (nV r) (b.2.map nV)) = _; rw [inV_nat], ?_⟩
            refine ite2 (fun e1 => ?_) (fun e1 => ?_)
            · rw [if_pos e1] at nx
              refine ⟨nV r, rfl, pm.step nM (Same.refl _) nx ?_⟩
              rw [List.length_map]
              unfold less
              have := List.length_filter_le (fun r => !b.2.contains r) (R.take j)
              rw [List.length_take] at this
              exact small1000 (by omega)
            · rw [if_neg e1, List.append_nil] at nx
              exact pm.skip (Same.refl _) nx
          rintro H3 pm
          have pm3 := pm.fin (l := (less R b.2).map nV) (by rw [take_all])
          refine ⟨M, _, rfl, .inl ⟨SqL.of pm3, fun t nt => ?_⟩⟩
          have s34 : Same H3 (upd H3 t (.tup ((less R b.2).map nV))) := same_upd nt
          have s4 := pm.1.trans s34
          generalize hH4 : upd H3 t (.tup ((less R b.2).map nV)) = H4 at s34 s4
          have ht4 : H4 t = some (.tup ((less R b.2).map nV)) := by rw [← hH4, upd_same]
          have lessk : (less R b.2).length ≤ k := by
            have := mx_less hbS hR0
            omega
          have b04 : But d H H4 := li.b0.trans (sBut s4)
          have hd4 := s4 _ _ hd'
          have c1 := cs_le lessk
          have cbnd : c + i * cs k + cs (less R b.2).length ≤ 10000000 := by
            have q1 : (i + 1) * cs k ≤ 2 ^ (k + 1) * cs k := Nat.mul_le_mul_right _ (by omega)
            rw [Nat.add_mul, Nat.one_mul] at q1
            omega
          refine ⟨.ref F, rfl, .inl ⟨rfl, _, SqL.of (s4 _ _ li.kF)⟩, .ref p, rfl, .ref t, rfl, .ref d, rfl, p, t, d, n, adj, less R b.2, c + i * cs k, _, rfl, hpH.same s4, ht4, fun r hr => hRn r (mem_less.mp hr).1, by omega, by omega, li.kn.same s4, cbnd, fun H5 a b45 kn5 la5 => ?_⟩
          obtain ⟨L', l1, l2, l3, l4⟩ := la5.ex
          have t5 := tup_but hd4 b45
          have hb5 := t5 _ _ (s4 _ _ hbt)
          refine ⟨a, rfl, ⟨_, SqL.of l1⟩, fun N nN => lc_list (K := K) (a := a) (xs := refs L')
            (fun j H'' => ∃ Ns : Lays, Same H5 H'' ∧ H'' N = some (.lst (refs Ns)) ∧ LaysOk H'' Ns ∧ Ns.length = j ∧ rowsD Ns = ((rowsD L').take j).map fun m => b.2 :: m)
            ⟨[], same_upd nN, upd_same, (by intro b hb; cases hb), rfl, by simp⟩ (fun j H'' _ ⟨_, s5, _⟩ => SqL.of (s5 _ _ l1)) ?_ ?_⟩
          · rintro j y H6 hy ⟨Ns, s56, n1, n2, n3, n4⟩
            obtain ⟨b', hb', rfl⟩ := map_at hy
            have hbm' := List.mem_of_getElem? hb'
            have hj := ix_lt hb'
            have lb6k : lb (less R b.2).length ≤ 2097152 := by
              have := lb_le (show (less R b.2).length ≤ 6 by omega)
              rw [lb6] at this
              exact this
            have tl : b'.2.length ≤ 6 := by
              have q1 := (l4 (dat b'.2)).mp (List.mem_map.mpr ⟨b', hbm', rfl⟩)
              have q2 := lay_len q1
              rw [List.length_map] at q2
              omega
            refine ⟨rfl, .ref b.1, rfl, .ref b'.1, rfl, b'.1, refs b'.2, rfl, .inl (SqT.of (s56 _ _ (l2 b' hbm').1)), ?_, fun u nu => ?_⟩
            · show (V.ref b.1 :: (refs b'.2 ++ [])).length ≤ sizeLine
              rw [List.append_nil, List.length_cons, List.length_map]
              exact Nat.le_of_lt (small1000 (by omega))
            · have nNu : N ≠ u := ne_of_none n1 nu
              have exs : (V.ref b.1 :: (refs b'.2 ++ [])) = refs ((b.1, b.2) :: b'.2) := by
                rw [List.append_nil]
                rfl
              refine ⟨refs Ns, (upd_ne nNu).trans n1, ?_, Ns ++ [(u, (b.1, b.2) :: b'.2)], fun c' o ec => ?_, ?_, fun c' hc' => ?_, ?_, ?_⟩
              · rw [List.length_map, n3]
                exact small6 (by omega)
              · rw [upd_ne (ne_of_none ec nN), upd_ne (ne_of_none (s56 _ _ ec) nu)]
                exact s56 _ _ ec
              · rw [upd_same]
                unfold refs
                rw [List.map_append]
                rfl
              · have tt2 : ∀ b0 xs, H6 b0 = some (.tup xs) → upd (upd H6 u (.tup (V.ref b.1 :: (refs b'.2 ++ [])))) N (.lst (refs Ns ++ [.ref u])) b0 = some (.tup xs) := fun b0 xs e0 => by
                  rw [upd_ne (tup_ne e0 n1), upd_ne (ne_of_none e0 nu)]
                  exact e0
                rcases List.mem_append.mp hc' with z | z
                · exact n2.of tt2 c' z
                · rw [List.mem_singleton.mp z]
                  refine ⟨?_, fun c2 hc2 => ?_⟩
                  · show upd (upd H6 u (.tup (V.ref b.1 :: (refs b'.2 ++ [])))) N (.lst (refs Ns ++ [.ref u])) u = _
                    rw [upd_ne nNu.symm, upd_same, exs]
                  · rcases List.mem_cons.mp hc2 with rfl | z2
                    · exact tt2 _ _ (s56 _ _ hb5)
                    · exact tt2 _ _ (s56 _ _ ((l2 b' hbm').2 c2 z2))
              · rw [List.length_append, n3]
                rfl
              · rw [rowsD_snoc, n4, take_at (show (rowsD L')[j]? = some (dat b'.2) from at_map hb'), List.map_append]
                rfl
          · rintro H6 ⟨Ns, s56, n1, n2, n3, n4⟩
            have eall : (rowsD L').take (refs L').length = rowsD L' := List.take_of_length_le (by rw [List.length_map, List.length_map]; exact Nat.le_refl _)
            rw [eall] at n4
            rw [List.length_map] at n3
            have b46 : But d H4 H6 := b45.trans (sBut s56)
            have nFd : F ≠ d := ne_of (s4 _ _ li.kF) hd4 fun z => by cases z
            have nld : l ≠ d := ne_of (s4 _ _ li.kl) hd4 fun z => by cases z
            have kF6 := b46 _ _ nFd (s4 _ _ li.kF)
            have t46 := tup_but hd4 b46
            have tF : ∀ b xs, H6 b = some (.tup xs) → upd H6 F (.lst (refs L ++ refs Ns)) b = some (.tup xs) := tup_upd kF6 fun xs z => by cases z
            have lnk : Ns.length ≤ lb k := by
              rw [n3]
              exact Nat.le_trans l3 (lb_le lessk)
            have ltot : L.length + Ns.length ≤ (i + 1) * lb k := by
              rw [Nat.add_mul, Nat.one_mul]
              exact Nat.add_le_add li.len lnk
            have lmax : (i + 1) * lb k ≤ 2097152 := by
              have q1 : (i + 1) * lb k ≤ 2 ^ (k + 1) * lb k := Nat.mul_le_mul_right _ (by omega)
              have q2 := lb_le (show R.length ≤ 6 from hR6)
              rw [lbk, lb6] at q2
              omega
            refine ⟨F, N, _, _, rfl, rfl, kF6, n1, ?_, L ++ Ns, _, _, rfl, ?_⟩
            · rw [List.length_map, List.length_map]
              exact Nat.le_of_lt (small6 (by omega))
            · refine ⟨?_, ?_, ?_, ?_, ?_, ?_, ?_, ?_⟩
              · intro b0 o nb e0
                rw [upd_ne (ne_of_none e0 nF0)]
                exact b46 _ _ nb (b04 _ _ nb e0)
              · rw [upd_same]
                unfold refs
                rw [List.map_append]
              · rw [upd_ne nFl]
                exact b46 _ _ nld (s4 _ _ li.kl)
              · intro b0 hb0
                exact tF _ _ (t46 _ _ (s4 _ _ (li.kb b0 hb0)))
              · intro b0 hb0
                rcases List.mem_append.mp hb0 with z | z
                · exact (((li.lo.of (tup_same s4)).of t46).of tF) b0 z
                · exact (n2.of tF) b0 z
              · rw [List.length_append]
                exact ltot
              · intro x
                have ea : rowsD (L ++ Ns) = rowsD L ++ rowsD Ns := by
                  unfold rowsD
                  rw [List.map_append]
                rw [ea, List.mem_append, li.mem, n4, take_at (show (dat bs)[i]? = some b.2 from at_map hb)]
                constructor
                · rintro (⟨S', m', h1, h2, h3⟩ | hx2)
                  · exact ⟨S', m', List.mem_append_left _ h1, h2, h3⟩
                  · obtain ⟨m', hm', rfl⟩ := List.mem_map.mp hx2
                    exact ⟨b.2, m', List.mem_append_right _ (List.mem_singleton.mpr rfl), rfl, (l4 m').mp hm'⟩
                · rintro ⟨S', m', h1, h2, h3⟩
                  rcases List.mem_append.mp h1 with z | z
                  · exact .inl ⟨S', m', z, h2, h3⟩
                  · rw [List.mem_singleton] at z
                    subst z
                    exact .inr (List.mem_map.mpr ⟨m', (l4 m').mpr h3, h2.symm⟩)
              · have hnone : ∀ a0, H4 a0 = none → H a0 = none := fun a0 e0 => by
                  cases hq : H a0 with
                  | none => rfl
                  | some o =>
                    by_cases e1 : a0 = d
                    · rw [e1, hd4] at e0
                      cases e0
                    · rw [b04 _ _ e1 hq] at e0
                      cases e0
                have kn6 := kn5.same s56
                refine Known.mono (A := fun b0 => ((Ad b0 ∨ H b0 = none) ∧ b0 ≠ F) ∨ H4 b0 = none) (kn6.upd kF6 fun a0 h0 => ?_) ?_ fun a0 _ h0 => ?_
                · rcases h0 with h0 | h0
                  · exact h0.2
                  · exact (ne_of_none (s4 _ _ li.kF) h0).symm
                · rw [Nat.add_mul, Nat.one_mul]
                  omega
                · rcases h0 with h0 | h0
                  · exact h0
                  · exact ⟨.inr (hnone a0 h0), (ne_of_none (s4 _ _ li.kF) h0).symm⟩
        · rintro σ H7 ⟨L, v4, v5, rfl, li⟩
          rw [List.length_map] at li
          obtain ⟨kvs', hd', hl', _⟩ := id li.kn.ex
          have hra7 : H7 ra = some (.tup (R.map nV)) := by
            obtain ⟨kvs0, hd0, _, _⟩ := hK.ex
            exact tup_but hd0 li.b0 _ _ hR
          have hkey7 : H7 ra = some (.tup ((keyOf R).map kV)) := by
            rw [keyOf_kV]
            exact hra7
          have nrad : ra ≠ d := ne_of hra7 hd' fun z => by cases z
          have lays : LaysAt H7 F adj R := by
            refine ⟨L, li.kF, li.lo, ?_, fun x => ?_⟩
            · rw [lbk]
              exact Nat.le_trans li.len (Nat.mul_le_mul_right _ lbs)
            · rw [li.mem]
              have ed : (dat bs).take bs.length = dat bs := List.take_of_length_le (by rw [List.length_map]; exact Nat.le_refl _)
              rw [ed]
              constructor
              · rintro ⟨S', m', h1, rfl, h3⟩
                exact ⟨hR0, perm.mem_iff.mp h1, h3⟩
              · intro hx
                cases x with
                | nil => exact absurd hx hR0
                | cons S' m' => exact ⟨S', m', perm.mem_iff.mpr hx.2.1, rfl, hx.2.2⟩
          have ck : c + bs.length * cs k + 1 ≤ c + cs R.length := by
            have q1 : bs.length * cs k ≤ 2 ^ (k + 1) * cs k := Nat.mul_le_mul_right _ lbs
            omega
          have kn8 := (li.kn.mono (A' := fun b0 => Ad b0 ∨ H b0 = none) (Nat.le_refl _) fun a0 _ h0 => h0.1).put hd' lays (.inr nF0)
          refine ⟨.ref F, rfl, .ref d, rfl, .ref ra, rfl, d, _, rfl, DPut.t hd' hkey7 (small6 (by omega)), ?_⟩
          have hget8 := DGet.t (H := upd H7 d (.dT (putK kvs' (keyOf R) (.ref F)))) (b := ra) (k := keyOf R) upd_same (by rw [upd_ne nrad]; exact hkey7)
          rw [valV_put, if_pos rfl] at hget8
          exact ⟨.ref d, rfl, .ref ra, rfl, d, .ref F, rfl, hget8, q _ F (li.b0.trans but_upd) (kn8.mono (by omega) fun a0 _ h0 => h0) (lays.but hd' but_upd)⟩
theorem ok_lay (D : Df K mg "layers_from" sLayersFrom psLay) (B : Blt mg) (C : Cal P w K mg base 2 "largest_in" ["rows", "rooms"] spLargestIn) : ∀ m, Cal P w K mg base (m + 3) "layers_from" psLay (spLay m)
  | 0 => by
    refine Cal.mono (j := 1) (D.cal scLay (fun vs H Q E h => ?_) (fun f cdv A outer s H vs Q E hr h => ?_)) (by decide)
    · obtain ⟨p, ra, d, n, adj, R, c, A, rfl, _⟩ := h
      rfl
    · obtain ⟨p, ra, d, n, adj, R, c, A, rfl, _, _, _, _, hlt, _⟩ := h
      exact absurd hlt (Nat.not_lt_zero _)
  | m + 1 => ok_layStep m D B C (ok_lay D B C m)
end
end Mx
end MxP6_
section MxP7_
set_option Elab.async false
set_option linter.all false
set_option maxRecDepth 100000
set_option maxHeartbeats 1000000
namespace Mx
open PySem PySem.Spec PyProof.Rows L2
theorem ixN_of {n j : Nat} (h : j < n) : ixN n (j : Int) = some j := by
  unfold ixN
  rw [if_pos (by omega), if_pos (by omega)]
  rfl
theorem put_snoc (f : List Nat) (S : List Nat) (r k : Nat) : put f (S ++ [r]) k = (put f S k).set r k := by
  unfold put
  rw [List.foldl_append]
  rfl
theorem puts_snoc : ∀ (x : List (List Nat)) (f : List Nat) (S : List Nat) (k : Nat), puts f (x ++ [S]) k = put (puts f x k) S (k + x.length)
  | [], f, S, k => rfl
  | T :: x, f, S, k => by
    show puts (put f T k) (x ++ [S]) (k + 1) = put (puts (put f T k) x (k + 1)) S (k + (x.length + 1))
    rw [puts_snoc x, Nat.add_assoc, Nat.add_comm 1]
theorem rep_flat (n : Nat) : (List.replicate n [nV 0]).flatten = (List.replicate n 0).map nV := by
  induction n with
  | zero => rfl
  | succ n ih =>
    rw [List.replicate_succ, List.flatten_cons, ih, List.replicate_succ]
    rfl
theorem rgV_nat (n : Nat) : rgV 0 (n : Int) = (List.range n).map nV := by
  unfold rgV
  rw [show ((n : Int) - 0).toNat = n by omega]
  refine List.map_congr_left fun i _ => ?_
  show V.int (0 + (i : Int)) = V.int (i : Int)
  rw [Int.zero_add]
section
variable {P : Program} {w : World} {K : PySem.W.Frag} {mg : Str → Option Value} {base : Heap}
def spStateOf : Sp := fun vs H Q _ => ∃ (n : Nat) (la : Addr) (ts : Tups), vs = [nV n, .ref la] ∧ H la = some (.tup (refs ts)) ∧ TupsOk H ts ∧ n ≤ 6 ∧ (∀ b ∈ ts, ∀ r ∈ b.2, r < n) ∧
  ∀ H' t, Same H H' → H' t = some (.tup ((stateOf n (dat ts)).map nV)) → Q (.ref t) H'
abbrev nSt : List Str := ["size", "layers", "found", "number", "some", "room"]
theorem scStateOf : FnScope nSt ["size", "layers"] (defScope sStateOf) := ⟨rfl, rfl, rfl, by decide +kernel, rfl, by decide +kernel, by decide +kernel⟩
theorem ok_stateOf (D : Df K mg "state_of" sStateOf ["size", "layers"]) (B : Blt mg) : Cal P w K mg base 1 "state_of" ["size", "layers"] spStateOf := by
  refine D.cal scStateOf (fun vs H Q E h => ?_) (fun f cdv A outer s H vs Q E hr h => ?_)
  · obtain ⟨n, la, ts, rfl, _⟩ := h
    rfl
  · obtain ⟨n, la, ts, rfl, hla, hts, hn, hlt, q⟩ := h
    refine ⟨_, pss_cons (ps_set (i := 2) scStateOf.nd rfl (.inl rfl) (pe_op op_rep (pe_lst (pa_cons pe_int pa_nil)) (pv 0)))
      (pss_cons (ps_for PassesOwn.never rfl (pi_enumT (by rfl) B.enumerate (pa_cons (pv 1) pa_nil))
        (pg_tup rfl (pgs_cons (pg_name (i := 3) scStateOf.nd rfl (.inl rfl)) (pgs_cons (pg_name (i := 4) scStateOf.nd rfl (.inl rfl)) pgs_nil)))
        (pss_one (ps_for PassesOwn.never rfl (pi_tup (pv 4)) (pg_name (i := 5) scStateOf.nd rfl (.inl rfl)) (pss_one (ps_asg (pv 3) (pg_sub (pv 2) (pv 5) set_list))))))
      (pss_one (ps_ret (pe_callTy call_tuple_of (by rfl) B.tuple (by decide +kernel) (pa_cons (pv 2) pa_nil))))), ?_⟩
    refine ⟨by show 1 ≤ sizeLine; decide, fun l nl => ⟨nV n, rfl, l, n, [nV 0], rfl, rfl, upd_same, by omega, by omega, ?_, fun F nF => ?_⟩⟩
    · show 1 * (n : Int).toNat ≤ sizeLine
      exact Nat.le_of_lt (small1000 (by omega))
    have nF0 : H F = none := (same_upd nl).free nF
    have s0 : Same H (upd (upd H l (.lst [nV 0])) F (.lst (List.replicate (n : Int).toNat [nV 0]).flatten)) := (same_upd nl).trans (same_upd nF)
    refine ⟨.ref la, rfl, la, _, rfl, SqT.of (s0 _ _ hla), for_enumT (K := K) (a := la) (xs := refs ts)
      (fun i σ H' => ∃ v3 v4 v5, σ = [some (nV n), some (.ref la), some (.ref F), v3, v4, v5] ∧ Same H H' ∧ H' F = some (.lst ((puts (List.replicate n 0) ((dat ts).take i) 0).map nV)))
      ⟨none, none, none, rfl, s0, by rw [upd_same, rep_flat]; rfl⟩ (fun i σ H' _ ⟨_, _, _, _, sm, _⟩ => SqT.of (sm _ _ hla)) ?_ ?_⟩
    · rintro i x T σ H1 hx ⟨v3, v4, v5, rfl, sm, hF⟩ nT
      obtain ⟨b, hb, rfl⟩ := map_at hx
      have hbm := List.mem_of_getElem? hb
      have hi := ix_lt hb
      have s1 := sm.trans (same_upd nT (o := .tup [nV i, .ref b.1]))
      have hF1 : upd H1 T (.tup [nV i, .ref b.1]) F = some (.lst ((puts (List.replicate n 0) ((dat ts).take i) 0).map nV)) := (same_upd nT) _ _ hF
      refine ⟨T, [nV i, .ref b.1], rfl, SqT.of upd_same, rfl, nV i, [.ref b.1], rfl, .ref b.1, [], rfl, rfl, ?_⟩
      refine ⟨.ref b.1, rfl, b.1, rfl, ⟨_, SqT.of (s1 _ _ (hts b hbm))⟩, for_tup (K := K) (a := b.1) (xs := b.2.map nV)
        (fun j σ H' => ∃ v5, σ = [some (nV n), some (.ref la), some (.ref F), some (nV i), some (.ref b.1), v5] ∧ Same H H' ∧ H' F = some (.lst ((put (puts (List.replicate n 0) ((dat ts).take i) 0) (b.2.take j) i).map nV)))
        ⟨v5, rfl, s1, hF1⟩ (fun j σ H' _ ⟨_, _, sm, _⟩ => SqT.of (sm _ _ (hts b hbm))) ?_ ?_⟩
      · rintro j y σ H2 hy ⟨v5, rfl, s2, hF2⟩
        obtain ⟨r, hr1, rfl⟩ := map_at hy
        have hrn := hlt b hbm r (List.mem_of_getElem? hr1)
        refine ⟨nV i, rfl, .ref F, rfl, nV r, rfl, F, _, (r : Int), r, rfl, rfl, hF2, ?_, _, rfl, ?_, ?_⟩
        · rw [List.length_map, put_len, puts_len, List.length_replicate]
          exact ixN_of hrn
        · intro b0 o e0
          rw [upd_ne (ne_of_none e0 nF0)]
          exact s2 _ _ e0
        · rw [upd_same, take_at hr1, put_snoc, List.map_set]
      · rintro σ H2 ⟨v5, rfl, s2, hF2⟩
        rw [take_all] at hF2
        refine ⟨_, _, _, rfl, s2, ?_⟩
        rw [hF2, take_at (show (dat ts)[i]? = some b.2 from at_map hb), puts_snoc, Nat.zero_add, List.length_take, List.length_map, Nat.min_eq_left (Nat.le_of_lt hi)]
    · rintro σ H1 ⟨v3, v4, v5, rfl, sm, hF⟩
      have ed : (dat ts).take (refs ts).length = dat ts := List.take_of_length_le (by rw [List.length_map, List.length_map]; exact Nat.le_refl _)
      rw [ed] at hF
      exact ⟨.ref F, rfl, F, _, rfl, .inl ⟨SqL.of hF, fun t nt => q _ t (sm.trans (same_upd nt)) upd_same⟩⟩
def spAllRests : Sp := fun vs H Q _ => ∃ (a : Addr) (n : Nat) (ds : List (Nat × Nat)), vs = [.ref a] ∧ HouseAt H a n ds ∧
  ∀ H' l (bs : Tups), Same H H' → H' l = some (.lst (refs bs)) → TupsOk H' bs → (∀ s, s ∈ dat bs ↔ IsRest n (adjOf ds) s) → bs.length ≤ 2097152 → Q (.ref l) H'
theorem scAllRests : FnScope ["house", "some"] ["house"] (defScope sAllRests) := ⟨rfl, rfl, rfl, by decide +kernel, rfl, by decide +kernel, by decide +kernel⟩
theorem ok_allRests (D : Df K mg "all_rests" sAllRests ["house"]) (B : Blt mg) (C1 : Cal P w K mg base 1 "near" ["house"] spNear) (C2 : Cal P w K mg base 1 "state_of" ["size", "layers"] spStateOf) (C3 : Cal P w K mg base 10 "layers_from" psLay (spLay 7)) :
    Cal P w K mg base 11 "all_rests" ["house"] spAllRests := by
  refine D.cal scAllRests (fun vs H Q E h => ?_) (fun f cdv A outer s H vs Q E hr h => ?_)
  · obtain ⟨a, n, ds, rfl, _⟩ := h
    rfl
  · obtain ⟨a, n, ds, rfl, hh, q⟩ := h
    refine ⟨_, pss_one (ps_ret (pe_callB (cr_sortN hr.units) (by rfl) B.sorted (by decide +kernel) (pa_cons
      (pe_lc (own := [("some", 1)]) (g := gName 1) (tt := tYes) rfl scAllRests.nd (pi_list (pe_cal C3 hr (by decide) (pa_cons (pe_cal C1 hr (by decide) (pa_cons (pv 0) pa_nil))
          (pa_cons (pe_tupRg rfl (by rfl) B.tuple (prg_1 (by rfl) B.range (pe_ix ix_tup (pv 0) pe_int (fun _ _ => rfl)))) (pa_cons pe_dnewT pa_nil)))))
        (blkOk_by (N := ["house", "some"]) (sc := defScope sAllRests) (by decide +kernel)) (fun _ _ _ _ _ => pg_name (i := 1) scAllRests.nd rfl (.inl rfl)) (fun _ _ _ _ _ => pts_nil)
        (fun _ _ _ _ _ => pe_cal C2 hr (by decide) (pa_cons (pe_ix (r := rIxT K) ix_tup (pv 0) pe_int (fun _ _ => rfl)) (pa_cons (pv 1) pa_nil)))) pa_nil))), ?_⟩
    obtain ⟨dr, ps, h1, h2, h3, h4⟩ := hh.ex
    have p1 := hh.ok.pos
    have p2 := hh.ok.le
    refine ⟨.ref a, rfl, a, n, ds, rfl, hh, fun H1 p s1 np hp => ?_⟩
    refine ⟨.ref a, rfl, a, _, 0, nV n, rfl, rfl, SqT.of (s1 _ _ h1), atI_nat (j := 0) rfl, (n : Int), rfl, RgOk.of_le (by omega) (by omega) (by omega) (by omega), fun t nt d nd => ?_⟩
    rw [rgV_nat] at nd ⊢
    have s2 := s1.trans (same_upd nt (o := .tup ((List.range n).map nV)))
    have s3 := s2.trans (same_upd nd (o := .dT []))
    have s23 := (same_upd nt (o := .tup ((List.range n).map nV))).trans (same_upd nd (o := .dT []))
    have nd0 : H d = none := s2.free nd
    refine ⟨p, t, d, n, adjOf ds, List.range n, 0, fun _ => True, rfl, hp.same s23, (same_upd nd) _ _ upd_same, fun r hr => List.mem_range.mp hr, by rw [List.length_range]; exact p2, by rw [List.length_range]; omega,
      ⟨[], upd_same, Nat.le_refl _, by intro kv hkv; cases hkv⟩, ?_, fun H4 l b4 _ la => ?_⟩
    · have q1 := cs_le (show (List.range n).length ≤ 6 by rw [List.length_range]; exact p2)
      have q2 := cs6
      omega
    · have s4 : Same H H4 := fun b o e => b4 _ _ (ne_of_none e nd0) (s3 _ _ e)
      obtain ⟨L, l1, l2, l3, l4⟩ := la.ex
      have lL : L.length ≤ 2097152 := by
        have q1 := lb_le (show (List.range n).length ≤ 6 by rw [List.length_range]; exact p2)
        rw [lb6] at q1
        omega
      refine ⟨l, rfl, ⟨_, SqL.of l1⟩, fun N nN => lc_list (K := K) (a := l) (xs := refs L)
        (fun j H' => ∃ out : Tups, Same H4 H' ∧ H' N = some (.lst (refs out)) ∧ TupsOk H' out ∧ dat out = ((rowsD L).take j).map (stateOf n)) ⟨[], same_upd nN, upd_same, (by intro b hb; cases hb), by simp⟩
        (fun j H' _ ⟨_, s5, _⟩ => SqL.of (s5 _ _ l1)) ?_ ?_⟩
      · rintro j y H5 hy ⟨out, s45, o1, o2, o3⟩
        obtain ⟨b, hb, rfl⟩ := map_at hy
        have hbm := List.mem_of_getElem? hb
        have hj := ix_lt hb
        have hlay := (l4 (dat b.2)).mp (List.mem_map.mpr ⟨b, hbm, rfl⟩)
        refine ⟨rfl, .ref a, rfl, a, _, 0, nV n, rfl, rfl, SqT.of (s45 _ _ (s4 _ _ h1)), atI_nat (j := 0) rfl, .ref b.1, rfl, n, b.1, b.2, rfl, s45 _ _ (l2 b hbm).1, (l2 b hbm).2.same s45, p2, fun c hc r hr => ?_, fun H6 u s56 hu => ?_⟩
        · exact List.mem_range.mp (lay_sets hlay c.2 (List.mem_map.mpr ⟨c, hc, rfl⟩) r hr)
        · have o6 := s56 _ _ o1
          refine ⟨refs out, o6, ?_, out ++ [(u, stateOf n (dat b.2))], fun b0 o e0 => ?_, ?_, fun c hc => ?_, ?_⟩
          · have q1 := congrArg List.length o3
            rw [List.length_map, List.length_map, List.length_take, List.length_map] at q1
            rw [List.length_map]
            exact small6 (by omega)
          · rw [upd_ne (ne_of_none e0 nN)]
            exact s56 _ _ (s45 _ _ e0)
          · rw [upd_same, refs_snoc]
          · have q1 : H6 c.1 = some (.tup (c.2.map nV)) := by
              rcases List.mem_append.mp hc with z | z
              · exact s56 _ _ (o2 c z)
              · rw [List.mem_singleton.mp z]
                exact hu
            rw [upd_ne (tup_ne q1 o6)]
            exact q1
          · rw [dat_snoc, o3, take_at (show (rowsD L)[j]? = some (dat b.2) from at_map hb), List.map_append]
            rfl
      · rintro H5 ⟨out, s45, o1, o2, o3⟩
        have eall : (rowsD L).take (refs L).length = rowsD L := List.take_of_length_le (by rw [List.length_map, List.length_map]; exact Nat.le_refl _)
        rw [eall] at o3
        have iff_ : ∀ s, s ∈ dat out ↔ IsRest n (adjOf ds) s := fun s => by
          rw [o3, List.mem_map]
          constructor
          · rintro ⟨x, hx, rfl⟩
            exact ⟨x, (l4 x).mp hx, rfl⟩
          · rintro ⟨x, hx, rfl⟩
            exact ⟨x, (l4 x).mpr hx, rfl⟩
        refine ⟨N, out, rfl, SqL.of o1, fun b hb => ⟨o2 b hb, fun z => ?_⟩, fun srt l2 perm nl2 => ?_⟩
        · obtain ⟨x, hx, e⟩ := (iff_ b.2).mp (List.mem_map.mpr ⟨b, hb, rfl⟩)
          have q1 := congrArg List.length e
          rw [stateOf_len, z, List.length_nil] at q1
          omega
        · have pd : (dat srt).Perm (dat out) := perm.map _
          refine q _ l2 srt ((s4.trans s45).trans (same_upd nl2)) upd_same (fun b hb => ?_) (fun s => pd.mem_iff.trans (iff_ s)) ?_
          · have q1 := o2 b (perm.mem_iff.mp hb)
            rw [upd_ne (ne_of_none q1 nl2)]
            exact q1
          · have q1 := congrArg List.length o3
            rw [List.length_map, List.length_map, List.length_map] at q1
            rw [perm.length_eq, q1]
            exact lL
theorem scRests : FnScope ["house"] ["house"] (defScope sRests) := ⟨rfl, rfl, rfl, by decide +kernel, rfl, by decide +kernel, by decide +kernel⟩
theorem ok_rests (D : Df K mg "rests" sRests ["house"]) (C1 : Cal P w K mg base 4 "need_house" ["house"] spNeedHouse) (C2 : Cal P w K mg base 11 "all_rests" ["house"] spAllRests) : Cal P w K mg base 12 "rests" ["house"] spAllRests := by
  refine D.cal scRests (fun vs H Q E h => ?_) (fun f cdv A outer s H vs Q E hr h => ?_)
  · obtain ⟨a, n, ds, rfl, _⟩ := h
    rfl
  · obtain ⟨a, n, ds, rfl, hh, q⟩ := h
    refine ⟨_, pss_cons (ps_expr (pe_cal C1 hr (by decide) (pa_cons (pv 0) pa_nil))) (pss_one (ps_ret (pe_cal C2 hr (by decide) (pa_cons (pv 0) pa_nil)))), ?_⟩
    refine ⟨.ref a, rfl, a, n, ds, rfl, hh, fun H1 s1 => ?_⟩
    exact ⟨.ref a, rfl, a, n, ds, rfl, hh.same s1, fun H' l bs s2 => q H' l bs (s1.trans s2)⟩
def spShownIn : Sp := fun vs H Q _ => ∃ (a : Addr) (n : Nat) (ds : List (Nat × Nat)) (r : Nat), vs = [.ref a, nV r] ∧ HouseAt H a n ds ∧ r < n ∧
  ∀ H' t (ms : List Int), Same H H' → H' t = some (.tup (ms.map V.int)) → (∀ z : Int, z ∈ ms ↔ ∃ s, IsRest n (adjOf ds) s ∧ z = (s.getD r 0 : Nat)) → Q (.ref t) H'
theorem scShownIn : FnScope ["house", "room", "rest"] ["house", "room"] (defScope sShownIn) := ⟨rfl, rfl, rfl, by decide +kernel, rfl, by decide +kernel, by decide +kernel⟩
theorem getD_at {s : List Nat} {r : Nat} (h : r < s.length) : (s.map nV)[r]? = some (nV (s.getD r 0)) := by
  rw [List.getElem?_map, List.getElem?_eq_getElem h, List.getD_eq_getElem?_getD, List.getElem?_eq_getElem h]
  rfl
theorem ok_shownIn (D : Df K mg "shown_in" sShownIn ["house", "room"]) (B : Blt mg) (C1 : Cal P w K mg base 4 "need_house" ["house"] spNeedHouse) (C2 : Cal P w K mg base 3 "need_room" ["house", "room"] spNeedRoom)
    (C3 : Cal P w K mg base 11 "all_rests" ["house"] spAllRests) : Cal P w K mg base 12 "shown_in" ["house", "room"] spShownIn := by
  refine D.cal scShownIn (fun vs H Q E h => ?_) (fun f cdv A outer s H vs Q E hr h => ?_)
  · obtain ⟨a, n, ds, r, rfl, _⟩ := h
    rfl
  · obtain ⟨a, n, ds, r, rfl, hh, hrn, q⟩ := h
    refine ⟨_, pss_cons (ps_expr (pe_cal C1 hr (by decide) (pa_cons (pv 0) pa_nil))) (pss_cons (ps_expr (pe_cal C2 hr (by decide) (pa_cons (pv 0) (pa_cons (pv 1) pa_nil))))
      (pss_one (ps_ret (pe_callTy call_tuple_of (by rfl) B.tuple (by decide +kernel) (pa_cons (pe_callB (cr_sortedSet rfl) (by rfl) B.sorted (by decide +kernel) (pa_cons (pe_callTy (cr_setFew rfl) (by rfl) B.set (by decide +kernel) (pa_cons
        (pe_lc (own := [("rest", 2)]) (g := gName 2) (tt := tYes) rfl scShownIn.nd (pi_list (pe_cal C3 hr (by decide) (pa_cons (pv 0) pa_nil))) (blkOk_by (N := ["house", "room", "rest"]) (sc := defScope sShownIn) (by decide +kernel))
          (fun _ _ _ _ _ => pg_name (i := 2) scShownIn.nd rfl (.inl rfl)) (fun _ _ _ _ _ => pts_nil) (fun _ _ _ _ _ => pe_ix (r := rIxT K) ix_tup (pv 2) (pv 1) (fun _ _ => rfl))) pa_nil)) pa_nil)) pa_nil))))), ?_⟩
    have p2 := hh.ok.le
    have G := hh.ok.gr
    refine ⟨.ref a, rfl, a, n, ds, rfl, hh, fun H1 s1 => ?_⟩
    refine ⟨.ref a, rfl, nV r, rfl, a, n, ds, r, rfl, hh.same s1, hrn, ?_⟩
    refine ⟨.ref a, rfl, a, n, ds, rfl, hh.same s1, fun H2 l bs s2 hl hbs hm hlen => ?_⟩
    have isr : ∀ b ∈ bs, Rest n (adjOf ds) b.2 := fun b hb => ((hm b.2).mp (List.mem_map.mpr ⟨b, hb, rfl⟩)).rest G
    refine ⟨l, rfl, ⟨_, SqL.of hl⟩, fun M nM => lc_list (K := K) (a := l) (xs := refs bs) (PM H2 M fun j => ((bs.take j).map fun b => ((b.2.getD r 0 : Nat) : Int)).map V.int) (PM.start nM) (fun j H' _ h => SqL.of (h.1 _ _ hl)) ?_ ?_⟩
    · rintro j y H3 hy pm
      obtain ⟨b, hb, rfl⟩ := map_at hy
      have hbm := List.mem_of_getElem? hb
      have hj := ix_lt hb
      refine ⟨rfl, .ref b.1, rfl, nV r, rfl, b.1, _, _, nV (b.2.getD r 0), rfl, rfl, SqT.of (pm.1 _ _ (hbs b hbm)), atI_nat (getD_at (by rw [(isr b hbm).len]; exact hrn)), ?_⟩
      refine pm.step nM (Same.refl _) ?_ ?_
      · rw [take_at hb, List.map_append, List.map_append]
        rfl
      · rw [List.length_map, List.length_map, List.length_take]
        exact small6 (by omega)
    · rintro H3 pm
      have pm3 := pm.fin (l := (bs.map fun b => ((b.2.getD r 0 : Nat) : Int)).map V.int) (by rw [take_all])
      refine ⟨M, _, rfl, SqL.of pm3, fun z hz => ?_, fun S c hc nS => ?_⟩
      · obtain ⟨b, hb, rfl⟩ := List.mem_map.mp hz
        have := (isr b hb).small r hrn
        omega
      · refine ⟨S, _, c, rfl, upd_same, by omega, fun ns L2 _ hns _ nL2 => ?_⟩
        refine ⟨L2, _, rfl, .inl ⟨SqL.of upd_same, fun t nt => ?_⟩⟩
        refine q _ t ns ((((s1.trans s2).trans pm.1).trans (same_upd nS)).trans ((same_upd nL2).trans (same_upd nt))) upd_same fun z => ?_
        rw [hns z, decide_eq_true_eq, List.mem_map]
        constructor
        · rintro ⟨b, hb, rfl⟩
          exact ⟨b.2, (hm b.2).mp (List.mem_map.mpr ⟨b, hb, rfl⟩), rfl⟩
        · rintro ⟨s0, hs0, rfl⟩
          obtain ⟨b, hb, e⟩ := List.mem_map.mp ((hm s0).mpr hs0)
          exact ⟨b, hb, by rw [e]⟩
end
end Mx
end MxP7_
section MxP8_
set_option Elab.async false
set_option linter.all false
set_option maxRecDepth 100000
set_option maxHeartbeats 1000000
namespace Mx
open PySem PySem.Spec PyProof.Rows L2
/-- a part that a room shows is well shown -/
def Good (adj : Adj) (xs : List V) (i : Nat) : Prop := ∀ p : Int, xs[i]? = some (.int p) → (∀ j, adj i j = true → xs[j]? ≠ some (.int p)) ∧ ∀ k : Nat, (k : Int) < p → ∃ j, adj i j = true ∧ xs[j]? = some (nV k)
theorem mem_ks {n : Nat} {adj : Adj} (G : Gr n adj) {xs : List V} (hl : xs.length = n) {i : Nat} {row : List Nat} (hr : ∀ j, j ∈ row ↔ adj i j = true) (v : V) : v ∈ row.map (fun k => xs.getD k .non) ↔ ∃ j, adj i j = true ∧ xs[j]? = some v := by
  rw [List.mem_map]
  constructor
  · rintro ⟨j, hj, rfl⟩
    have hj2 := (hr j).mp hj
    have := (G.lt i j hj2).2
    refine ⟨j, hj2, ?_⟩
    rw [List.getD_eq_getElem?_getD, List.getElem?_eq_getElem (by omega)]
    rfl
  · rintro ⟨j, hj, e⟩
    refine ⟨j, (hr j).mpr hj, ?_⟩
    rw [List.getD_eq_getElem?_getD, e]
    rfl
theorem eqV_int {x : V} {i : Int} (h : eqV x (.int i) = true) (k : okPart x = true) : x = .int i := by
  cases x with
  | int j =>
    have h2 : (j == i) = true := h
    rw [eq_of_beq h2]
  | non => cases h
  | _ => cases k
theorem eqV_self (i : Int) : eqV (.int i) (.int i) = true := by
  show (i == i) = true
  exact beq_self_eq_true i
theorem okPart_leaf {x : V} (h : okPart x = true) : leafV x = true := by
  cases x <;> first | rfl | cases h
theorem okPart_in (x : V) : okPart x = (decide (x = .non) || inB 0 60 x) := by
  cases x <;> simp [okPart, inB]
/-- the promise of both judges -/
def spJudge : Sp := fun vs H Q _ => ∃ (p : Addr) (v : V) (r : Nat) (num : Int) (n : Nat) (adj : Adj) (o : Option (List V)), vs = [.ref p, v, nV r, .int num] ∧ RowsAt H p n adj ∧ Gr n adj ∧ n ≤ 6 ∧ r < n ∧ ValIs H v o ∧
  ∀ H' b, Same H H' → (b = true ↔ FitsO n adj o r num) → Q (.bl b) H'
theorem no_fits {n : Nat} {adj : Adj} {o : Option (List V)} {r : Nat} {num : Int} (h : ¬ FitsO n adj o r num) : (false = true ↔ FitsO n adj o r num) := ⟨(fun z => by cases z), fun z => absurd z h⟩
section
variable {P : Program} {w : World} {K : PySem.W.Frag} {mg : Str → Option Value} {base : Heap}
abbrev nWit : List Str := ["rows", "value", "room", "number", "part", "here", "shown", "other", "less"]
abbrev psWit : List Str := ["rows", "value", "room", "number"]
theorem scIsWitness : FnScope nWit psWit (defScope sIsWitness) := ⟨rfl, rfl, rfl, by decide +kernel, rfl, by decide +kernel, by decide +kernel⟩
theorem ok_isWitness (D : Df K mg "is_witness" sIsWitness psWit) (B : Blt mg) (C1 : Cal P w K mg base 1 "is_list" psNum spIsList) (C2 : Cal P w K mg base 2 "is_in" psNum spIsIn) : Cal P w K mg base 3 "is_witness" psWit spJudge := by
  refine D.cal scIsWitness (fun vs H Q E h => ?_) (fun f cdv A outer s H vs Q E hr h => ?_)
  · obtain ⟨p, v, r, num, n, adj, o, rfl, _⟩ := h
    rfl
  · obtain ⟨p, v, r, num, n, adj, o, rfl, hp, G, hn, hrn, hv, q⟩ := h
    refine ⟨_, pss_cons (ps_if (PW.pt (pw_or (pt_not (pt_val (pe_cal C1 hr (by decide) (pa_cons (pv 1) (pa_cons (pe_callB call_len_seq (by rfl) B.len PySem.boot_len (pa_cons (pv 0) pa_nil)) (pa_cons (pe_callB call_len_seq (by rfl) B.len PySem.boot_len (pa_cons (pv 0) pa_nil)) pa_nil))))))
        (pw_or1 (pt_cmpR (op_neInt hr.units) (pe_ix ix_tup (pv 1) (pv 2) (fun _ _ => rfl)) (pv 3) (nomark _))))) (pss_one (ps_ret pe_bl)) pss_nil)
      (pss_cons (ps_if (pt_not (pt_val (pe_callB (cr_all rfl) (by rfl) B.all (by decide +kernel) (pa_cons (pe_lc (own := [("part", 4)]) (g := gName 4) (tt := tYes) rfl scIsWitness.nd (pi_tup (pv 1)) (blkOk_by (N := nWit) (sc := defScope sIsWitness) (by decide +kernel))
          (fun _ _ _ _ _ => pg_name (i := 4) scIsWitness.nd rfl (.inl rfl)) (fun _ _ _ _ _ => pts_nil)
          (fun _ _ _ _ _ => pe_or (pe_cmpR op_isN (pv 4) pe_non (nomark _)) (pe_one (pe_cal C2 hr (by decide) (pa_cons (pv 4) (pa_cons pe_int (pa_cons pe_int pa_nil))))))) pa_nil)))) (pss_one (ps_ret pe_bl)) pss_nil)
      (pss_cons (ps_for PassesOwn.never rfl (pi_enumT (by rfl) B.enumerate (pa_cons (pv 1) pa_nil)) (pg_tup rfl (pgs_cons (pg_name (i := 5) scIsWitness.nd rfl (.inl rfl)) (pgs_cons (pg_name (i := 4) scIsWitness.nd rfl (.inl rfl)) pgs_nil)))
        (pss_one (ps_if (pt_cmpR op_notN (pv 4) pe_non (nomark _))
          (pss_cons (ps_set (i := 6) scIsWitness.nd rfl (.inr rfl) (pe_leafDc (iv := 1) rfl rfl rfl (pe_ix ix_list (pv 0) (pv 5) (fun _ _ => rfl)) rfl rfl))
          (pss_one (ps_if (PW.pt (pw_or (pt_cmpR op_inLeaf (pv 4) (pv 6) rfl) (pw_or1 (pt_not (pt_val (pe_callB (cr_all rfl) (by rfl) B.all (by decide +kernel) (pa_cons
              (pe_lc (own := [("less", 8)]) (g := gName 8) (tt := tYes) rfl scIsWitness.nd (pi_range1 (by rfl) B.range (pa_cons (pv 4) pa_nil)) (blkOk_by (N := nWit) (sc := defScope sIsWitness) (by decide +kernel))
                (fun _ _ _ _ _ => pg_name (i := 8) scIsWitness.nd rfl (.inl rfl)) (fun _ _ _ _ _ => pts_nil) (fun _ _ _ _ _ => pe_cmpR (r := rInLeaf P w) op_inLeaf (pv 8) (pv 6) rfl)) pa_nil)))))))
            (pss_one (ps_ret pe_bl)) pss_nil))) pss_nil)))
      (pss_one (ps_ret pe_bl)))), ?_⟩
    obtain ⟨rs, r1, r2, _⟩ := hp.ex
    have rl : (refs rs).length = n := by rw [List.length_map, r2]
    refine ⟨v, rfl, .ref p, rfl, p, _, rfl, .inl (SqL.of r1), .ref p, rfl, p, _, rfl, .inl (SqL.of r1), ?_⟩
    rw [rl]
    rcases hv with ⟨rfl, rfl⟩ | ⟨a, xs, rfl, ha, rfl⟩ | ⟨a, xs, rfl, ha, hx, rfl⟩
    · have nf : ¬ FitsO n adj none r num := fun ⟨vs, e, _⟩ => by cases e
      exact ⟨.non, _, n, n, rfl, .non, fun _ => ⟨_, rfl, q H false (Same.refl _) (no_fits nf)⟩, fun a xs e1 _ => by cases e1⟩
    · have nf : ¬ FitsO n adj none r num := fun ⟨vs, e, _⟩ => by cases e
      exact ⟨.ref a, _, n, n, rfl, .lst ha, fun _ => ⟨_, rfl, q H false (Same.refl _) (no_fits nf)⟩, fun b ys e1 e2 => by
        cases e1
        rw [ha] at e2
        cases e2⟩
    refine ⟨.ref a, "tuple", n, n, rfl, .tup ha, fun z => absurd rfl z, tupIs ha ⟨_, rfl, ?_⟩⟩
    by_cases hl : xs.length = n
    · -- as many parts as rooms
      refine iteNT (by rw [hl, decide_eq_true (by omega)]; rfl) ?_
      have ex : xs[r]? = some xs[r] := List.getElem?_eq_getElem (by omega)
      have okx := hx _ (List.mem_of_getElem? ex)
      refine ⟨.ref a, rfl, nV r, rfl, a, xs, _, xs[r], rfl, rfl, SqT.of ha, atI_nat ex, .int num, rfl, num, okx, rfl, _, rfl, ?_⟩
      refine ite2 (fun e1 => ?_) (fun e1 => ?_)
      · refine q H false (Same.refl _) (no_fits fun ⟨vs, e2, _, e3, _⟩ => ?_)
        cases e2
        rw [ex] at e3
        rw [Option.some.inj e3, eqV_self] at e1
        cases e1
      · have e2 : eqV xs[r] (.int num) = true := by
          cases hq : eqV xs[r] (.int num) with
          | true => rfl
          | false =>
            rw [hq] at e1
            exact absurd rfl e1
        -- all parts are numbers or none
        refine ⟨.ref a, rfl, a, rfl, ⟨_, SqT.of ha⟩, fun M nM => lc_tup (K := K) (a := a) (xs := xs) (PM H M fun j => ((xs.take j).map okPart).map V.bl) (PM.start nM) (fun j H' _ h => SqT.of (h.1 _ _ ha)) ?_ ?_⟩
        · rintro j y H1 hy pm
          have hj := ix_lt hy
          have oky := hx y (List.mem_of_getElem? hy)
          have nx : ((xs.take (j + 1)).map okPart).map V.bl = ((xs.take j).map okPart).map V.bl ++ [.bl (okPart y)] := by
            rw [take_at hy, List.map_append, List.map_append]
            rfl
          have sz : (((xs.take j).map okPart).map V.bl).length < sizeLine := by
            rw [List.length_map, List.length_map, List.length_take]
            exact small1000 (by omega)
          refine ⟨rfl, y, rfl, rfl, _, rfl, ?_⟩
          refine ite2 (fun e3 => ?_) (fun e3 => ?_)
          · rw [show okPart y = true by rw [okPart_in, e3]; rfl] at nx
            exact pm.step nM (Same.refl _) nx sz
          · have e4 : okPart y = inB 0 60 y := by rw [okPart_in, eq_false_of_ne_true e3]; rfl
            rw [e4] at nx
            obtain ⟨T, kT⟩ := kd_flat (H := H1) (okD_flat oky)
            refine ⟨y, rfl, y, T, 0, 60, rfl, kT, fun e5 => ?_, fun e5 => ?_⟩
            · rw [e5] at nx
              exact pm.step nM (Same.refl _) nx sz
            · rw [e5] at nx
              exact pm.step nM (Same.refl _) nx sz
        · rintro H1 pm
          have pm3 := pm.fin (l := (xs.map okPart).map V.bl) (by rw [List.take_length])
          have ha1 := pm.1 _ _ ha
          refine ⟨M, _, rfl, SqL.of pm3, _, rfl, ?_⟩
          by_cases hall : (xs.map okPart).all id = true
          · refine iteNT hall ?_
            have okall : ∀ x ∈ xs, okPart x = true := fun x hxm => by
              rw [List.all_map] at hall
              exact List.all_eq_true.mp hall x hxm
            have exr : xs[r]? = some (.int num) := by
              rw [ex, eqV_int e2 (okall _ (List.mem_of_getElem? ex))]
            refine ⟨.ref a, rfl, a, xs, rfl, SqT.of ha1, for_enumT (K := K) (a := a) (xs := xs)
              (fun i σ H' => ∃ v4 v5 v6, σ = [some (.ref p), some (.ref a), some (nV r), some (.int num), v4, v5, v6, none, none] ∧ Same H H' ∧ ∀ i', i' < i → Good adj xs i')
              ⟨none, none, none, rfl, pm.1, fun i' h => absurd h (Nat.not_lt_zero _)⟩ (fun i σ H' _ ⟨_, _, _, _, sm, _⟩ => SqT.of (sm _ _ ha)) ?_ ?_⟩
            · rintro i x T σ H2 hxi ⟨v4, v5, v6, rfl, sm, gd⟩ nT
              have hi := ix_lt hxi
              have s2 := sm.trans (same_upd nT (o := .tup [nV i, x]))
              have okx := okall x (List.mem_of_getElem? hxi)
              refine ⟨T, [nV i, x], rfl, SqT.of upd_same, rfl, nV i, [x], rfl, x, [], rfl, rfl, ?_⟩
              refine ⟨x, rfl, rfl, _, rfl, ?_⟩
              cases x with
              | non =>
                refine ⟨_, _, _, rfl, s2, fun i' hi' => ?_⟩
                by_cases e5 : i' = i
                · subst e5
                  intro p5 e6
                  rw [hxi] at e6
                  cases e6
                · exact gd i' (by omega)
              | int z =>
                have hz : 0 ≤ z ∧ z ≤ 60 := by
                  have h1 : (decide (0 ≤ z) && decide (z ≤ 60)) = true := okx
                  rw [Bool.and_eq_true] at h1
                  exact ⟨of_decide_eq_true h1.1, of_decide_eq_true h1.2⟩
                obtain ⟨rxs, ro, row, w1, w2, w3, w4, w5, w6⟩ := (hp.same s2).row (show i < n by omega)
                refine ⟨a, xs, rfl, .ref p, rfl, nV i, rfl, p, rxs, _, .ref ro, rfl, rfl, SqL.of w1, atI_nat w3, ro, row, rfl, SqL.of w4, SqT.of (s2 _ _ ha), fun k hk => ?_, fun dd ndd => ?_⟩
                · have hk2 := (G.lt i k ((w6 k).mp hk)).2
                  exact ⟨xs[k], List.getElem?_eq_getElem (by omega), okPart_leaf (okall _ (List.getElem_mem _))⟩
                have mk := mem_ks G hl w6
                have leafs : ∀ y ∈ row.map (fun k => xs.getD k .non), leafV y = true := fun y hy => by
                  obtain ⟨j, _, e6⟩ := (mk y).mp hy
                  exact okPart_leaf (okall _ (List.mem_of_getElem? e6))
                have s3 := s2.trans (same_upd ndd (o := LeafO P w dd (row.map fun k => xs.getD k .non)))
                refine ⟨.int z, rfl, .ref dd, rfl, z, dd, _, rfl, rfl, upd_same, leafs, _, rfl, ?_⟩
                refine ite2 (fun e5 => ?_) (fun e5 => ?_)
                · refine q _ false s3 (no_fits fun ⟨vs, e6, _, _, _, e7⟩ => ?_)
                  cases e6
                  obtain ⟨j, hj, e8⟩ := (mk _).mp (of_decide_eq_true e5)
                  exact (e7 i z hxi).1 j hj e8
                · have e5' : V.int z ∉ row.map (fun k => xs.getD k .non) := fun h => e5 (decide_eq_true h)
                  have hdd : upd (upd H2 T (.tup [nV i, .int z])) dd (LeafO P w dd (row.map fun k => xs.getD k .non)) dd = some (LeafO P w dd (row.map fun k => xs.getD k .non)) := upd_same
                  refine ⟨.int z, rfl, z, rfl, by omega, by omega, fun M2 nM2 => lc_range (lo := 0) (n := z.toNat) (PM (upd (upd H2 T (.tup [nV i, .int z])) dd (LeafO P w dd (row.map fun k => xs.getD k .non))) M2 fun j => ((List.range j).map fun (k : Nat) => decide (nV k ∈ row.map (fun k => xs.getD k .non))).map V.bl) (PM.start nM2) ?_ ?_⟩
                  · rintro k H4 hk pm4
                    have e0 : (0 : Int) + (k : Int) = (k : Int) := Int.zero_add _
                    refine ⟨rfl, .int (0 + (k : Int)), rfl, .ref dd, rfl, _, dd, _, rfl, rfl, pm4.1 _ _ hdd, leafs, ?_⟩
                    refine pm4.step nM2 (Same.refl _) ?_ ?_
                    · rw [List.range_succ, List.map_append, List.map_append, e0]
                      rfl
                    · rw [List.length_map, List.length_map, List.length_range]
                      exact small1000 (by omega)
                  · rintro H4 pm4
                    refine ⟨M2, _, rfl, SqL.of pm4.2, _, rfl, ?_⟩
                    by_cases hal : ((List.range z.toNat).map fun (k : Nat) => decide (nV k ∈ row.map (fun k => xs.getD k .non))).all id = true
                    · refine iteNT hal ⟨_, _, _, rfl, s3.trans pm4.1, fun i' hi' => ?_⟩
                      by_cases e6 : i' = i
                      · subst e6
                        intro p6 e7
                        rw [hxi] at e7
                        injection (Option.some.inj e7) with e8
                        subst e8
                        refine ⟨fun j hj e9 => e5' ((mk _).mpr ⟨j, hj, e9⟩), fun k hk => ?_⟩
                        rw [List.all_map] at hal
                        have q1 := List.all_eq_true.mp hal k (List.mem_range.mpr (by omega))
                        exact (mk _).mp (of_decide_eq_true q1)
                      · exact gd i' (by omega)
                    · rw [eq_false_of_ne_true hal]
                      refine q _ false (s3.trans pm4.1) (no_fits fun ⟨vs, e6, _, _, _, e7⟩ => hal ?_)
                      cases e6
                      rw [List.all_map]
                      refine List.all_eq_true.mpr fun k hk => ?_
                      have hk2 := List.mem_range.mp hk
                      exact decide_eq_true ((mk _).mpr ((e7 i z hxi).2 k (by omega)))
              | _ => cases okx
            · rintro σ H2 ⟨v4, v5, v6, rfl, sm, gd⟩
              refine q H2 true sm ⟨fun _ => ⟨xs, rfl, hl, exr, okall, fun i p6 e6 => gd i (ix_lt e6) p6 e6⟩, fun _ => rfl⟩
          · rw [eq_false_of_ne_true hall]
            refine q H1 false pm.1 (no_fits fun ⟨vs, e6, _, _, e7, _⟩ => hall ?_)
            cases e6
            rw [List.all_map]
            exact List.all_eq_true.mpr fun x hxm => e7 x hxm
    · have e1 : (decide ((n : Int) ≤ (xs.length : Int)) && decide ((xs.length : Int) ≤ (n : Int))) = false := by
        rcases Nat.lt_or_ge xs.length n with z | z
        · rw [decide_eq_false (by omega)]
          rfl
        · rw [decide_eq_true (by omega), decide_eq_false (by omega)]
          rfl
      rw [e1]
      refine q H false (Same.refl _) (no_fits fun ⟨vs, e2, e3, _⟩ => ?_)
      cases e2
      exact hl e3
end
end Mx
end MxP8_
section MxP9_
set_option Elab.async false
set_option linter.all false
set_option maxRecDepth 100000
set_option maxHeartbeats 1000000
namespace Mx
open PySem PySem.Spec PyProof.Rows L2
theorem inV_ks {z : Int} {ks : List V} (h : ∀ y ∈ ks, okPart y = true) : inV (.int z) ks = decide (V.int z ∈ ks) := by
  rw [Bool.eq_iff_iff, decide_eq_true_eq]
  unfold inV
  rw [List.any_eq_true]
  constructor
  · rintro ⟨y, hy, e⟩
    rw [← eqV_int e (h y hy)]
    exact hy
  · exact fun hm => ⟨_, hm, eqV_self z⟩
theorem okPart_okD {x : V} (h : okPart x = true) : okD x = true := by
  cases x <;> first | rfl | cases h
section
variable {P : Program} {w : World} {K : PySem.W.Frag} {mg : Str → Option Value} {base : Heap}
theorem scShowsNumber : FnScope ["house", "room", "number", "value"] ["house", "room", "number", "value"] (defScope sShowsNumber) := ⟨rfl, rfl, rfl, by decide +kernel, rfl, by decide +kernel, by decide +kernel⟩
def spShows : Sp := fun vs H Q _ => ∃ (a : Addr) (v : V) (r : Nat) (num : Int) (n : Nat) (ds : List (Nat × Nat)) (o : Option (List V)), vs = [.ref a, nV r, .int num, v] ∧ HouseAt H a n ds ∧ r < n ∧ 0 ≤ num ∧ num ≤ 60 ∧ ValIs H v o ∧
  ∀ H' b, Same H H' → (b = true ↔ FitsO n (adjOf ds) o r num) → Q (.bl b) H'
theorem ok_showsNumber (D : Df K mg "shows_number" sShowsNumber ["house", "room", "number", "value"]) (C1 : Cal P w K mg base 4 "need_house" ["house"] spNeedHouse) (C2 : Cal P w K mg base 3 "need_room" ["house", "room"] spNeedRoom)
    (C3 : Cal P w K mg base 2 "is_in" psNum spIsIn) (C4 : Cal P w K mg base 1 "near" ["house"] spNear) (C5 : Cal P w K mg base 3 "is_witness" psWit spJudge) : Cal P w K mg base 5 "shows_number" ["house", "room", "number", "value"] spShows := by
  refine D.cal scShowsNumber (fun vs H Q E h => ?_) (fun f cdv A outer s H vs Q E hr h => ?_)
  · obtain ⟨a, v, r, num, n, ds, o, rfl, _⟩ := h
    rfl
  · obtain ⟨a, v, r, num, n, ds, o, rfl, hh, hrn, h0, h60, hv, q⟩ := h
    refine ⟨_, pss_cons (ps_expr (pe_cal C1 hr (by decide) (pa_cons (pv 0) pa_nil))) (pss_cons (ps_expr (pe_cal C2 hr (by decide) (pa_cons (pv 0) (pa_cons (pv 1) pa_nil))))
      (pss_cons (ps_if (pt_not (pt_val (pe_cal C3 hr (by decide) (pa_cons (pv 2) (pa_cons pe_int (pa_cons pe_int pa_nil)))))) pss_never pss_nil)
      (pss_one (ps_ret (pe_cal C5 hr (by decide) (pa_cons (pe_cal C4 hr (by decide) (pa_cons (pv 0) pa_nil)) (pa_cons (pv 3) (pa_cons (pv 1) (pa_cons (pv 2) pa_nil))))))))), ?_⟩
    refine ⟨.ref a, rfl, a, n, ds, rfl, hh, fun H1 s1 => ?_⟩
    refine ⟨.ref a, rfl, nV r, rfl, a, n, ds, r, rfl, hh.same s1, hrn, ?_⟩
    refine ⟨.int num, rfl, _, "int", 0, 60, rfl, .int _, fun _ => ⟨_, rfl, ?_⟩, fun e => (inB_no h0 h60 e).elim⟩
    refine ⟨.ref a, rfl, a, n, ds, rfl, hh.same s1, fun H2 p s2 np hp => ?_⟩
    exact ⟨v, rfl, nV r, rfl, .int num, rfl, p, v, r, num, n, adjOf ds, o, rfl, hp, hh.ok.gr, hh.ok.le, hrn, hv.same (s1.trans s2), fun H' b s3 hb => q H' b ((s1.trans s2).trans s3) hb⟩
abbrev nFit : List Str := ["_law_rows", "_law_value", "_law_room", "_law_number", "_law_here", "_law_shown", "_law_part", "_law_other", "_law_less"]
abbrev psFit : List Str := ["_law_rows", "_law_value", "_law_room", "_law_number"]
theorem scFits : FnScope nFit psFit (defScope sFits) := ⟨rfl, rfl, rfl, by decide +kernel, rfl, by decide +kernel, by decide +kernel⟩
theorem ok_fits (D : Df K mg "_law_fits" sFits psFit) (B : Blt mg) : Cal P w K mg base 1 "_law_fits" psFit spJudge := by
  refine D.cal scFits (fun vs H Q E h => ?_) (fun f cdv A outer s H vs Q E hr h => ?_)
  · obtain ⟨p, v, r, num, n, adj, o, rfl, _⟩ := h
    rfl
  · obtain ⟨p, v, r, num, n, adj, o, rfl, hp, G, hn, hrn, hv, q⟩ := h
    refine ⟨_, pss_cons (ps_if (PW.pt (pw_or (pt_not (pt_val (pe_callB call_isK (by rfl) B.isinstance (by decide +kernel) (pa_cons (pv 1) (pa_cons (pe_bltn (v := .ty "tuple") (by rfl) B.tuple (by decide +kernel) rfl) pa_nil)))))
        (pw_or (pt_cmpR op_ne (pe_callB call_len_seq (by rfl) B.len PySem.boot_len (pa_cons (pv 1) pa_nil)) (pe_callB call_len_seq (by rfl) B.len PySem.boot_len (pa_cons (pv 0) pa_nil)) (nomark _))
        (pw_or1 (pt_cmpR (op_neInt hr.units) (pe_ix ix_tup (pv 1) (pv 2) (fun _ _ => rfl)) (pv 3) (nomark _)))))) (pss_one (ps_ret pe_bl)) pss_nil)
      (pss_cons (ps_if (pt_cmpR (op_neNil hr.units) (pe_lc (own := [("_law_part", 6)]) (g := gName 6) rfl scFits.nd (pi_tup (pv 1)) (blkOk_by (N := nFit) (sc := defScope sFits) (by decide +kernel)) (fun _ _ _ _ _ => pg_name (i := 6) scFits.nd rfl (.inl rfl))
          (fun _ _ _ _ _ => pts_one (PW.pt (pw_and (pt_cmpR op_notN (pv 6) pe_non (nomark _)) (pw_and1 (PW.pt (pw_or
            (pt_not (pt_val (pe_callB (id := "isinstance") (r := rIsK) call_isK (by rfl) B.isinstance (by decide +kernel) (pa_cons (pv 6) (pa_cons (pe_bltn (v := .ty "int") (by rfl) B.int (by decide +kernel) rfl) pa_nil)))))
            (pw_or (pt_val (pe_callB (id := "isinstance") (r := rIsK) call_isK (by rfl) B.isinstance (by decide +kernel) (pa_cons (pv 6) (pa_cons (pe_bltn (v := .ty "bool") (by rfl) B.bool (by decide +kernel) rfl) pa_nil))))
              (pw_or1 (pt_not (pt_chain op_le op_le pe_int (pv 6) pe_int))))))))))
          (fun _ _ _ _ _ => pv 6)) (pe_lst pa_nil) (nomark _)) (pss_one (ps_ret pe_bl)) pss_nil)
      (pss_cons (ps_for PassesOwn.never rfl (pi_range1 (by rfl) B.range (pa_cons (pe_callB call_len_seq (by rfl) B.len PySem.boot_len (pa_cons (pv 0) pa_nil)) pa_nil)) (pg_name (i := 4) scFits.nd rfl (.inl rfl))
        (pss_one (ps_if (pt_cmpR op_notN (pe_ix ix_tup (pv 1) (pv 4) (fun _ _ => rfl)) pe_non (nomark _))
          (pss_cons (ps_set (i := 5) scFits.nd rfl (.inr rfl) (pe_lc (own := [("_law_other", 7)]) (g := gName 7) (tt := tYes) rfl scFits.nd (pi_list (pe_ix ix_list (pv 0) (pv 4) (fun _ _ => rfl))) (blkOk_by (N := nFit) (sc := defScope sFits) (by decide +kernel))
            (fun _ _ _ _ _ => pg_name (i := 7) scFits.nd rfl (.inl rfl)) (fun _ _ _ _ _ => pts_nil) (fun _ _ _ _ _ => pe_ix (r := rIxT K) ix_tup (pv 1) (pv 7) (fun _ _ => rfl))))
          (pss_one (ps_if (PW.pt (pw_or (pt_cmpR op_in_seq (pe_ix ix_tup (pv 1) (pv 4) (fun _ _ => rfl)) (pv 5) rfl)
            (pw_or1 (pt_cmpR (op_neNil hr.units) (pe_lc (own := [("_law_less", 8)]) (g := gName 8) rfl scFits.nd (pi_range1 (by rfl) B.range (pa_cons (pe_ix ix_tup (pv 1) (pv 4) (fun _ _ => rfl)) pa_nil)) (blkOk_by (N := nFit) (sc := defScope sFits) (by decide +kernel))
              (fun _ _ _ _ _ => pg_name (i := 8) scFits.nd rfl (.inl rfl)) (fun _ _ _ _ _ => pts_one (pt_cmpR (r := rIn K true) op_notIn_seq (pv 8) (pv 5) rfl)) (fun _ _ _ _ _ => pv 8)) (pe_lst pa_nil) (nomark _)))))
            (pss_one (ps_ret pe_bl)) pss_nil))) pss_nil)))
      (pss_one (ps_ret pe_bl)))), ?_⟩
    obtain ⟨rs, r1, r2, _⟩ := hp.ex
    have rl : (refs rs).length = n := by rw [List.length_map, r2]
    rcases hv with ⟨rfl, rfl⟩ | ⟨a, xs, rfl, ha, rfl⟩ | ⟨a, xs, rfl, ha, hx, rfl⟩
    · exact ⟨.non, rfl, _, _, "tuple", rfl, .non, by decide, _, rfl, q H false (Same.refl _) (no_fits fun ⟨vs, e, _⟩ => by cases e)⟩
    · exact ⟨.ref a, rfl, _, _, "tuple", rfl, .lst ha, by decide, _, rfl, q H false (Same.refl _) (no_fits fun ⟨vs, e, _⟩ => by cases e)⟩
    refine ⟨.ref a, rfl, _, _, "tuple", rfl, .tup ha, by decide, _, rfl, ?_⟩
    refine ⟨.ref a, rfl, a, xs, rfl, .inr (SqT.of ha), .ref p, rfl, p, refs rs, rfl, .inl (SqL.of r1), rfl, _, rfl, ?_⟩
    rw [rl]
    by_cases hl : xs.length = n
    · refine iteB (by rw [hl]; simp) ?_
      have ex : xs[r]? = some xs[r] := List.getElem?_eq_getElem (by omega)
      have okx := hx _ (List.mem_of_getElem? ex)
      refine ⟨.ref a, rfl, nV r, rfl, a, xs, _, xs[r], rfl, rfl, SqT.of ha, atI_nat ex, .int num, rfl, num, okx, rfl, _, rfl, ?_⟩
      refine ite2 (fun e1 => ?_) (fun e1 => ?_)
      · refine q H false (Same.refl _) (no_fits fun ⟨vs, e2, _, e3, _⟩ => ?_)
        cases e2
        rw [ex] at e3
        rw [Option.some.inj e3, eqV_self] at e1
        cases e1
      · have e2 : eqV xs[r] (.int num) = true := by
          cases hq : eqV xs[r] (.int num) with
          | true => rfl
          | false =>
            rw [hq] at e1
            exact absurd rfl e1
        refine ⟨.ref a, rfl, a, rfl, ⟨_, SqT.of ha⟩, fun M nM => lc_tup (K := K) (a := a) (xs := xs) (PM H M fun j => (xs.take j).filter fun y => !okPart y) (PM.start nM) (fun j H' _ h => SqT.of (h.1 _ _ ha)) ?_ ?_⟩
        · rintro j y H1 hy pm
          have hj := ix_lt hy
          have oky := hx y (List.mem_of_getElem? hy)
          have nx : ((xs.take (j + 1)).filter fun y => !okPart y) = ((xs.take j).filter fun y => !okPart y) ++ (if okPart y = true then [] else [y]) := by
            rw [take_at hy, List.filter_append]
            congr 1
            cases hq : okPart y <;> (simp only [List.filter_cons, List.filter_nil, hq]; rfl)
          have sz : ((xs.take j).filter fun y => !okPart y).length < sizeLine := by
            have := List.length_filter_le (fun y => !okPart y) (xs.take j)
            rw [List.length_take] at this
            exact small1000 (by omega)
          refine ⟨rfl, y, rfl, rfl, _, rfl, ?_⟩
          have keep : okPart y = false → ∃ acc, H1 M = some (.lst acc) ∧ acc.length < sizeLine ∧ PM H M (fun j => (xs.take j).filter fun y => !okPart y) (j + 1) (upd H1 M (.lst (acc ++ [y]))) := fun e => by
            rw [e] at nx
            exact pm.step nM (Same.refl _) nx sz
          have drop : okPart y = true → PM H M (fun j => (xs.take j).filter fun y => !okPart y) (j + 1) H1 := fun e => by
            rw [e] at nx
            exact pm.skip (Same.refl _) (nx.trans (List.append_nil _))
          cases y with
          | non => exact drop rfl
          | bl b => exact ⟨.bl b, rfl, _, _, "int", rfl, .bl b, by decide, _, rfl, .bl b, rfl, _, _, "bool", rfl, .bl b, by decide, _, rfl, .bl b, rfl, keep rfl⟩
          | str z => exact ⟨.str z, rfl, _, _, "int", rfl, .str z, by decide, _, rfl, .str z, rfl, keep rfl⟩
          | int z =>
            refine ⟨.int z, rfl, _, _, "int", rfl, .int z, by decide, _, rfl, .int z, rfl, _, _, "bool", rfl, .int z, by decide, _, rfl, .int z, rfl, 0, z, rfl, rfl, _, rfl, ?_⟩
            refine ite2 (fun e3 => ?_) (fun e3 => ?_)
            · refine ⟨z, 60, rfl, rfl, _, rfl, ?_⟩
              by_cases e4 : decide (z ≤ 60) = true
              · refine iteNT e4 (drop ?_)
                show (decide (0 ≤ z) && decide (z ≤ 60)) = true
                rw [e3, e4]
                rfl
              · rw [eq_false_of_ne_true e4]
                refine ⟨.int z, rfl, keep ?_⟩
                show (decide (0 ≤ z) && decide (z ≤ 60)) = false
                rw [eq_false_of_ne_true e4, Bool.and_false]
            · refine ⟨_, rfl, .int z, rfl, keep ?_⟩
              show (decide (0 ≤ z) && decide (z ≤ 60)) = false
              rw [eq_false_of_ne_true e3, Bool.false_and]
          | _ => cases oky
        · rintro H1 pm
          have pm3 := pm.fin (l := xs.filter fun y => !okPart y) (by rw [List.take_length])
          have ha1 := pm.1 _ _ ha
          refine ⟨Nat.zero_le _, fun e0 ne0 => ?_⟩
          have sE : Same H1 (upd H1 e0 (.lst [])) := same_upd ne0
          refine ⟨M, e0, _, rfl, rfl, sE _ _ pm3, upd_same, fun z hz => hx z (List.mem_filter.mp hz).1, _, rfl, ?_⟩
          have sA := pm.1.trans sE
          by_cases hall : (xs.filter fun y => !okPart y) = []
          · refine iteB (by rw [hall]; rfl) ?_
            have okall : ∀ x ∈ xs, okPart x = true := fun x hxm => by
              cases hq : okPart x with
              | true => rfl
              | false =>
                have : x ∈ xs.filter fun y => !okPart y := List.mem_filter.mpr ⟨hxm, by rw [hq]; rfl⟩
                rw [hall] at this
                cases this
            have exr : xs[r]? = some (.int num) := by
              rw [ex, eqV_int e2 (okall _ (List.mem_of_getElem? ex))]
            generalize upd H1 e0 (.lst []) = HA at sA
            refine ⟨.ref p, rfl, p, refs rs, rfl, .inl (SqL.of (sA _ _ r1)), ((refs rs).length : Int), rfl, by omega, by omega, ?_⟩
            rw [show (((refs rs).length : Nat) : Int).toNat = n by rw [rl]; rfl]
            refine for_range (lo := 0) (n := n) (fun i σ H' => ∃ v4 v5, σ = [some (.ref p), some (.ref a), some (nV r), some (.int num), v4, v5, none, none, none] ∧ Same H H' ∧ ∀ i', i' < i → Good adj xs i')
              ⟨none, none, rfl, sA, fun i' h => absurd h (Nat.not_lt_zero _)⟩ ?_ ?_
            · rintro i σ H2 hi ⟨v4, v5, rfl, sm, gd⟩
              have e00 : (0 : Int) + (i : Int) = (i : Int) := Int.zero_add _
              have hxi : xs[i]? = some xs[i] := List.getElem?_eq_getElem (by omega)
              generalize xs[i] = x at hxi
              have okx := okall x (List.mem_of_getElem? hxi)
              have ha2 := sm _ _ ha
              refine ⟨.ref a, rfl, .int (0 + (i : Int)), rfl, a, xs, _, x, rfl, rfl, SqT.of ha2, at_of e00 hxi, rfl, _, rfl, ?_⟩
              cases x with
              | non =>
                refine ⟨_, _, rfl, sm, fun i' hi' => ?_⟩
                by_cases e5 : i' = i
                · subst e5
                  intro p5 e6
                  rw [hxi] at e6
                  cases e6
                · exact gd i' (by omega)
              | int z =>
                have hz : 0 ≤ z ∧ z ≤ 60 := by
                  have h1 : (decide (0 ≤ z) && decide (z ≤ 60)) = true := okx
                  rw [Bool.and_eq_true] at h1
                  exact ⟨of_decide_eq_true h1.1, of_decide_eq_true h1.2⟩
                obtain ⟨rxs, ro, row, w1, w2, w3, w4, w5, w6⟩ := (hp.same sm).row hi
                have mk := mem_ks G hl w6
                have oks : ∀ y ∈ row.map (fun k => xs.getD k .non), okPart y = true := fun y hy => by
                  obtain ⟨j, _, e6⟩ := (mk y).mp hy
                  exact okall _ (List.mem_of_getElem? e6)
                have flats : (row.map fun k => xs.getD k .non).all flatV = true := okD_all fun y hy => okPart_okD (oks y hy)
                refine ⟨.ref p, rfl, .int (0 + (i : Int)), rfl, p, rxs, _, .ref ro, rfl, rfl, SqL.of w1, at_of e00 w3, ro, rfl, ⟨_, SqL.of w4⟩, fun M2 nM2 => lc_list (K := K) (a := ro) (xs := row.map nV)
                  (PM H2 M2 fun j => (row.take j).map fun k => xs.getD k .non) (PM.start nM2) (fun j H' _ h => SqL.of (h.1 _ _ w4)) ?_ ?_⟩
                · rintro j y H3 hy pm4
                  obtain ⟨k, hk, rfl⟩ := map_at hy
                  have hk2 := (G.lt i k ((w6 k).mp (List.mem_of_getElem? hk))).2
                  have exk : xs[k]? = some (xs.getD k .non) := by
                    rw [List.getD_eq_getElem?_getD, List.getElem?_eq_getElem (by omega)]
                    rfl
                  refine ⟨rfl, .ref a, rfl, nV k, rfl, a, xs, _, xs.getD k .non, rfl, rfl, SqT.of (pm4.1 _ _ ha2), atI_nat exk, ?_⟩
                  refine pm4.step nM2 (Same.refl _) ?_ ?_
                  · rw [take_at hk, List.map_append]
                    rfl
                  · rw [List.length_map, List.length_take]
                    exact small1000 (by omega)
                · rintro H3 pm4
                  have pm5 := pm4.fin (l := row.map fun k => xs.getD k .non) (by rw [take_all])
                  have s3 := sm.trans pm4.1
                  have ha3 := s3 _ _ ha
                  refine ⟨.ref a, rfl, .int (0 + (i : Int)), rfl, a, xs, _, .int z, rfl, rfl, SqT.of ha3, at_of e00 hxi, .ref M2, rfl, M2, _, rfl, .inl (SqL.of pm5), rfl, flats, decide (V.int z ∈ row.map (fun k => xs.getD k .non)), by show V.bl (inV _ _) = _; rw [inV_ks oks], ?_⟩
                  refine ite2 (fun e5 => ?_) (fun e5 => ?_)
                  · refine q _ false s3 (no_fits fun ⟨vs, e6, _, _, _, e7⟩ => ?_)
                    cases e6
                    obtain ⟨j, hj, e8⟩ := (mk _).mp (of_decide_eq_true e5)
                    exact (e7 i z hxi).1 j hj e8
                  · have e5' : V.int z ∉ row.map (fun k => xs.getD k .non) := fun h => e5 (decide_eq_true h)
                    refine ⟨.ref a, rfl, .int (0 + (i : Int)), rfl, a, xs, _, .int z, rfl, rfl, SqT.of ha3, at_of e00 hxi, z, rfl, by omega, by omega, fun M3 nM3 => lc_range (lo := 0) (n := z.toNat)
                      (PM H3 M3 fun j => ((List.range j).filter fun (k : Nat) => !decide (nV k ∈ row.map (fun k => xs.getD k .non))).map nV) (PM.start nM3) ?_ ?_⟩
                    · rintro k H4 hk pm6
                      have e0k : (0 : Int) + (k : Int) = (k : Int) := Int.zero_add _
                      have nx : ((List.range (k + 1)).filter fun (k : Nat) => !decide (nV k ∈ row.map (fun k => xs.getD k .non))).map nV = ((List.range k).filter fun (k : Nat) => !decide (nV k ∈ row.map (fun k => xs.getD k .non))).map nV ++ (if decide (nV k ∈ row.map (fun k => xs.getD k .non)) = true then [] else [nV k]) := by
                        rw [List.range_succ, List.filter_append, List.map_append]
                        congr 1
                        cases hq : decide (nV k ∈ row.map (fun k => xs.getD k .non)) <;> (simp only [List.filter_cons, List.filter_nil, hq]; rfl)
                      refine ⟨rfl, .int (0 + (k : Int)), rfl, .ref M2, rfl, M2, _, rfl, .inl (SqL.of (pm6.1 _ _ pm5)), rfl, flats, !decide (nV k ∈ row.map (fun k => xs.getD k .non)), by show V.bl (!inV _ _) = _; rw [inV_ks oks, e0k], ?_⟩
                      by_cases e6 : decide (nV k ∈ row.map (fun k => xs.getD k .non)) = true
                      · rw [e6] at nx
                        exact iteNT e6 (pm6.skip (Same.refl _) (nx.trans (List.append_nil _)))
                      · rw [eq_false_of_ne_true e6] at nx ⊢
                        rw [e0k]
                        refine ⟨nV k, rfl, pm6.step nM3 (Same.refl _) nx ?_⟩
                        rw [List.length_map]
                        have := List.length_filter_le (fun (k : Nat) => !decide (nV k ∈ row.map (fun k => xs.getD k .non))) (List.range k)
                        rw [List.length_range] at this
                        exact small1000 (by omega)
                    · rintro H4 pm6
                      refine ⟨Nat.zero_le _, fun e1 ne1 => ?_⟩
                      have sE1 : Same H4 (upd H4 e1 (.lst [])) := same_upd ne1
                      have s4 := s3.trans (pm6.1.trans sE1)
                      refine ⟨M3, e1, _, rfl, rfl, sE1 _ _ pm6.2, upd_same, okD_nats _, _, rfl, ?_⟩
                      by_cases hal : ((List.range z.toNat).filter fun (k : Nat) => !decide (nV k ∈ row.map (fun k => xs.getD k .non))) = []
                      · refine iteB (by dsimp only; rw [hal]; rfl) ⟨_, _, rfl, s4, fun i' hi' => ?_⟩
                        by_cases e6 : i' = i
                        · subst e6
                          intro p6 e7
                          rw [hxi] at e7
                          injection (Option.some.inj e7) with e8
                          subst e8
                          refine ⟨fun j hj e9 => e5' ((mk _).mpr ⟨j, hj, e9⟩), fun k hk => ?_⟩
                          refine (mk _).mp ?_
                          refine Classical.byContradiction fun hn2 => ?_
                          have : k ∈ (List.range z.toNat).filter fun (k : Nat) => !decide (nV k ∈ row.map (fun k => xs.getD k .non)) := List.mem_filter.mpr ⟨List.mem_range.mpr (by omega), by rw [decide_eq_false hn2]; rfl⟩
                          rw [hal] at this
                          cases this
                        · exact gd i' (by omega)
                      · refine iteA ?_ (q _ false s4 (no_fits fun ⟨vs, e6, _, _, _, e7⟩ => hal ?_))
                        · dsimp only
                          cases hq : (List.range z.toNat).filter fun (k : Nat) => !decide (nV k ∈ row.map (fun k => xs.getD k .non)) with
                          | nil => exact absurd hq hal
                          | cons _ _ => rfl
                        · cases e6
                          refine List.filter_eq_nil_iff.mpr fun k hk => ?_
                          have hk2 := List.mem_range.mp hk
                          rw [decide_eq_true ((mk _).mpr ((e7 i z hxi).2 k (by omega)))]
                          simp
              | _ => cases okx
            · rintro σ H2 ⟨v4, v5, rfl, sm, gd⟩
              exact q H2 true sm ⟨fun _ => ⟨xs, rfl, hl, exr, okall, fun i p6 e6 => gd i (hl ▸ ix_lt e6) p6 e6⟩, fun _ => rfl⟩
          · refine iteA ?_ (q _ false sA (no_fits fun ⟨vs, e6, _, _, e7, _⟩ => hall ?_))
            · cases hq : xs.filter fun y => !okPart y with
              | nil => exact absurd hq hall
              | cons _ _ => rfl
            · cases e6
              refine List.filter_eq_nil_iff.mpr fun y hy => ?_
              rw [e7 y hy]
              simp
    · refine iteA ?_ (q H false (Same.refl _) (no_fits fun ⟨vs, e2, e3, _⟩ => ?_))
      · rw [decide_eq_false fun e => ?_]
        · rfl
        · injection e with e
          omega
      · cases e2
        exact hl e3
end
end Mx
end MxP9_
section MxP10_
set_option Elab.async false
set_option linter.all false
set_option maxRecDepth 100000
set_option maxHeartbeats 1000000
namespace Mx
open PySem PySem.Spec PyProof.Rows L2
section
variable {P : Program} {w : World} {K : PySem.W.Frag} {mg : Str → Option Value} {base : Heap}
def spNeeded : Sp := fun vs H Q _ => ∃ (p ra : Addr) (n : Nat) (adj : Adj) (s : List Nat) (room : Nat), vs = [.ref p, .ref ra, nV room] ∧ RowsAt H p n adj ∧ H ra = some (.tup (s.map nV)) ∧ Rest n adj s ∧ n ≤ 6 ∧ room < n ∧ (∀ i j, adj i j = true → j < n) ∧
  ∀ H' l (F : List Nat), Same H H' → H' l = some (.lst (F.map nV)) → Need n adj s room F → Q (.ref l) H'
abbrev nNb : List Str := ["rows", "rest", "room", "found", "queue", "here", "less", "other", "one"]
theorem scNeeded : FnScope nNb ["rows", "rest", "room"] (defScope sNeededBy) := ⟨rfl, rfl, rfl, by decide +kernel, rfl, by decide +kernel, by decide +kernel⟩
theorem snoc_nV (l : List Nat) (k : Nat) : (l ++ [k]).map nV = l.map nV ++ [nV k] := by
  rw [List.map_append]
  rfl
theorem fil_snoc {α β : Type} (p : α → Bool) (f : α → β) (l : List α) (o : α) : ((l ++ [o]).filter p).map f = (l.filter p).map f ++ (if p o = true then [f o] else []) := by
  rw [List.filter_append, List.map_append]
  congr 1
  by_cases h : p o = true
  · rw [List.filter_cons_of_pos h, if_pos h]
    rfl
  · rw [List.filter_cons_of_neg h, if_neg h]
    rfl
theorem len_lt_n {F : List Nat} {n : Nat} (nd : F.Nodup) (h : ∀ r ∈ F, r < n) : F.length ≤ n := by
  have q := nodup_sub nd (m := List.range n) fun x hx => List.mem_range.mpr (h x hx)
  rwa [List.length_range] at q
theorem wt_len (s : List Nat) : ∀ l : List Nat, l.length ≤ wt s l
  | [] => Nat.zero_le _
  | a :: l => by
    have q := wt_len s l
    have q2 : 1 ≤ 2 ^ s.getD a 0 := Nat.two_pow_pos _
    show l.length + 1 ≤ wt s (a :: l)
    have e : wt s (a :: l) = 2 ^ s.getD a 0 + wt s l := by
      unfold wt
      rw [List.map_cons, List.sum_cons]
    omega
theorem ok_needed (D : Df K mg "needed_by" sNeededBy ["rows", "rest", "room"]) (B : Blt mg) : Cal P w K mg base 1 "needed_by" ["rows", "rest", "room"] spNeeded := by
  refine D.cal scNeeded (fun vs H Q E h => ?_) (fun f cdv A outer s0 H vs Q E hr h => ?_)
  · obtain ⟨p, ra, n, adj, s, room, rfl, _⟩ := h
    rfl
  · obtain ⟨p, ra, n, adj, s, room, rfl, hp, hR, rest, hn, hrm, hlt, q⟩ := h
    refine ⟨_, pss_cons (ps_par (i := 3) (j := 4) rfl scNeeded.nd rfl rfl (by decide) rfl rfl (pa_cons (pe_lst (pa_cons (pv 2) pa_nil)) (pa_cons (pe_lst (pa_cons (pv 2) pa_nil)) pa_nil)) rfl)
      (pss_cons (ps_while PassesOwn.never (pt_cmpR (op_neNil hr.units) (pv 4) (pe_lst pa_nil) (nomark _))
        (pss_cons (ps_set (i := 5) scNeeded.nd rfl (.inl rfl) (pe_bm0 PySem.F.plainAttrs_list PySem.F.slot_list_pop PySem.F.type_list_pop mt_pop (pv 4)))
        (pss_one (ps_for PassesOwn.never rfl (pi_range1 (by rfl) B.range (pa_cons (pe_ix ix_tup (pv 1) (pv 5) (fun _ _ => rfl)) pa_nil)) (pg_name (i := 6) scNeeded.nd rfl (.inr rfl))
          (pss_cons (ps_set (i := 7) scNeeded.nd rfl (.inl rfl) (pe_ix (r := rIxL K) ix_list
            (pe_lc (own := [("one", 8)]) (g := gName 8) rfl scNeeded.nd (pi_list (pe_ix (r := rIxL K) ix_list (pv 0) (pv 5) (fun _ _ => rfl))) (blkOk_by (N := nNb) (sc := defScope sNeededBy) (by decide +kernel))
              (fun _ _ _ _ _ => pg_name (i := 8) scNeeded.nd rfl (.inl rfl)) (fun _ _ _ _ _ => pts_one (pt_cmpR op_eq (pe_ix (r := rIxT K) ix_tup (pv 1) (pv 8) (fun _ _ => rfl)) (pv 6) (nomark _))) (fun _ _ _ _ _ => pv 8)) pe_int (fun _ _ => rfl)))
          (pss_one (ps_if (pt_cmpR op_notIn_seq (pv 7) (pv 3) rfl)
            (pss_cons (ps_expr (pe_bm PySem.F.plainAttrs_list PySem.F.slot_list_append PySem.F.type_list_append mt_append (pv 3) (pa_cons (pv 7) pa_nil)))
            (pss_one (ps_expr (pe_bm PySem.F.plainAttrs_list PySem.F.slot_list_append PySem.F.type_list_append mt_append (pv 4) (pa_cons (pv 7) pa_nil))))) pss_nil)))))))
      (pss_one (ps_ret (pe_callB (id := "sorted") (r := rSorted K) cr_sorted (by rfl) B.sorted (by decide +kernel) (pa_cons (pv 3) pa_nil))))), ?_⟩
    refine ⟨nV room, rfl, by show 1 ≤ sizeLine; decide, fun lF nF => ?_⟩
    refine ⟨nV room, rfl, by show 1 ≤ sizeLine; decide, fun lQ nQ => ?_⟩
    have nFQ : lF ≠ lQ := fun z => by
      rw [← z, upd_same] at nQ
      cases nQ
    have nF0 : H lF = none := nF
    have nQ0 : H lQ = none := (same_upd nF).free nQ
    have sA : Same H (upd (upd H lF (.lst [nV room])) lQ (.lst [nV room])) := (same_upd nF).trans (same_upd nQ)
    refine ⟨_, _, rfl, ?_⟩
    refine ⟨fun m σ H' => ∃ (F Qe : List Nat) (v5 v6 v7 : Option V), σ = [some (.ref p), some (.ref ra), some (nV room), some (.ref lF), some (.ref lQ), v5, v6, v7, none] ∧ Same H H' ∧ H' lF = some (.lst (F.map nV)) ∧ H' lQ = some (.lst (Qe.map nV)) ∧ NInv n adj s room F Qe ∧ Qe.length ≤ F.length ∧ m = wt s Qe,
      ⟨_, [room], [room], none, none, none, rfl, sA, (upd_ne nFQ).trans upd_same, upd_same, NInv.start hrm, Nat.le_refl _, rfl⟩, ?_⟩
    rintro m σ H1 ⟨F, Qe, v5, v6, v7, rfl, sm, hF, hQ, inv, lQF, rfl⟩
    refine ⟨.ref lQ, rfl, by show 0 ≤ sizeLine; decide, fun e ne => ?_⟩
    have s1 := sm.trans (same_upd ne (o := .lst []))
    have hF1 := (same_upd ne (o := .lst [])) _ _ hF
    have hQ1 := (same_upd ne (o := .lst [])) _ _ hQ
    refine ⟨lQ, e, Qe.map nV, rfl, rfl, hQ1, upd_same, okD_nats Qe, ?_⟩
    refine ⟨_, rfl, ?_⟩
    by_cases hq : Qe = []
    · subst hq
      refine iteB rfl ?_
      refine ⟨.ref lF, rfl, lF, F.map (fun (k : Nat) => (k : Int)), rfl, SqL.of ?_, ?_, fun ns l perm _ nl => ?_⟩
      · rw [nV_map]
        exact hF1
      · rw [List.length_map]
        have := len_lt_n inv.nd inv.lt
        omega
      · obtain ⟨m1, m2⟩ := perm_nat perm
        refine q _ l (ns.map Int.toNat) (s1.trans (same_upd nl)) ?_ (inv.need m1)
        rw [upd_same, m2]
    · obtain ⟨q0, here, rfl⟩ : ∃ q0 here, Qe = q0 ++ [here] := ⟨Qe.dropLast, Qe.getLast hq, (List.dropLast_concat_getLast hq).symm⟩
      have hhn : here < n := inv.lt here (inv.sub here (by simp))
      refine iteA (by rw [snoc_nV]; cases q0 <;> rfl) ?_
      refine ⟨fun σ H' => ∃ (F Qe : List Nat) (v5 v6 v7 : Option V), σ = [some (.ref p), some (.ref ra), some (nV room), some (.ref lF), some (.ref lQ), v5, v6, v7, none] ∧ Same H H' ∧ H' lF = some (.lst (F.map nV)) ∧ H' lQ = some (.lst (Qe.map nV)) ∧ NInv n adj s room F Qe ∧ Qe.length ≤ F.length ∧ wt s Qe < wt s (q0 ++ [here]),
        fun σ' H' ⟨F', Qe', w5, w6, w7, e1, e2, e3, e4, e5, e7, e6⟩ => ⟨_, e6, F', Qe', w5, w6, w7, e1, e2, e3, e4, e5, e7, rfl⟩, ?_⟩
      refine ⟨.ref lQ, rfl, .inl ⟨rfl, _, SqL.of hQ1⟩, lQ, _, nV here, rfl, rfl, hQ1, ?_, ?_⟩
      · rw [snoc_nV]
        simp
      rw [snoc_nV, List.dropLast_concat]
      have nra : ra ≠ lQ := ne_of_none hR nQ0
      have s2 : Same H (upd (upd H1 e (.lst [])) lQ (.lst (q0.map nV))) := fun b o eb => by
        rw [upd_ne (ne_of_none eb nQ0)]
        exact s1 _ _ eb
      have hF2 : (upd (upd H1 e (.lst [])) lQ (.lst (q0.map nV))) lF = some (.lst (F.map nV)) := (upd_ne nFQ).trans hF1
      refine ⟨.ref ra, rfl, nV here, rfl, ra, _, _, nV (s.getD here 0), rfl, rfl, SqT.of (s2 _ _ hR), atI_nat (getD_at (by rw [rest.len]; exact hhn)), ?_⟩
      have hsm := rest.small here hhn
      have lq0 : q0.length ≤ F.length := by
        rw [List.length_append] at lQF
        omega
      refine ⟨_, rfl, by omega, by omega, for_range (lo := 0) (n := s.getD here 0)
        (fun i σ H' => ∃ (F Qe : List Nat) (v6 v7 : Option V), σ = [some (.ref p), some (.ref ra), some (nV room), some (.ref lF), some (.ref lQ), some (nV here), v6, v7, none] ∧ Same H H' ∧ H' lF = some (.lst (F.map nV)) ∧ H' lQ = some (.lst (Qe.map nV)) ∧ NMid n adj s room here q0 i F Qe ∧ Qe.length ≤ F.length)
        ⟨F, q0, v6, v7, rfl, s2, hF2, upd_same, inv.pop, lq0⟩ ?_ ?_⟩
      · rintro i σ H2 hi ⟨F2, Q2, v6, v7, rfl, sm2, hF3, hQ3, mid, lQ2⟩
        obtain ⟨xs, ro, row, r1, r2, r3, r4, r5, r6⟩ := (hp.same sm2).row hhn
        have ei : V.int (0 + (i : Int)) = nV i := by rw [Int.zero_add]
        rw [ei]
        refine ⟨.ref p, rfl, nV here, rfl, p, xs, _, .ref ro, rfl, rfl, SqL.of r1, atI_nat r3, ro, rfl, ⟨_, SqL.of r4⟩, fun L nL => lc_list (K := K) (a := ro) (xs := row.map nV) (PM H2 L fun j => ((row.take j).filter fun o => s.getD o 0 == i).map nV)
          (PM.start nL) (fun j H' _ h => SqL.of (h.1 _ _ r4)) ?_ ?_⟩
        · rintro j y H3 hy pm
          obtain ⟨o, ho, rfl⟩ := map_at hy
          have hon : o < n := hlt here o ((r6 o).mp (List.mem_of_getElem? ho))
          have hj := ix_lt ho
          refine ⟨rfl, .ref ra, rfl, nV o, rfl, ra, _, _, nV (s.getD o 0), rfl, rfl, SqT.of (pm.1 _ _ (sm2 _ _ hR)), atI_nat (getD_at (by rw [rest.len]; exact hon)), nV i, rfl, rfl, _, rfl, ?_⟩
          have nx : ((row.take (j + 1)).filter fun o => s.getD o 0 == i).map nV = ((row.take j).filter fun o => s.getD o 0 == i).map nV ++ (if (s.getD o 0 == i) = true then [nV o] else []) := by
            rw [take_at ho]
            exact fil_snoc (fun o => s.getD o 0 == i) nV _ o
          refine ite2 (fun e1 => ?_) (fun e1 => ?_)
          · have e2 : s.getD o 0 = i := by
              have e3 := of_decide_eq_true e1
              injection e3 with e3
              omega
            rw [if_pos (by rw [e2]; exact beq_self_eq_true i)] at nx
            refine ⟨nV o, rfl, pm.step nL (Same.refl _) nx ?_⟩
            rw [List.length_map]
            have q1 := List.length_filter_le (fun o => s.getD o 0 == i) (row.take j)
            rw [List.length_take] at q1
            exact small1000 (by omega)
          · rw [if_neg, List.append_nil] at nx
            · exact pm.skip (Same.refl _) nx
            · intro e2
              have e3 := eq_of_beq e2
              exact e1 (decide_eq_true (by rw [e3]))
        · rintro H3 pm
          have pm3 := pm.fin (l := (row.filter fun o => s.getD o 0 == i).map nV) (by rw [take_all])
          obtain ⟨j0, a1, a2⟩ := rest.all here hhn i hi
          cases hfl : row.filter fun o => s.getD o 0 == i with
          | nil =>
            have q1 : j0 ∈ row.filter fun o => s.getD o 0 == i := List.mem_filter.mpr ⟨(r6 j0).mpr a1, by rw [a2]; exact beq_self_eq_true i⟩
            rw [hfl] at q1
            cases q1
          | cons o tl =>
            have q1 : o ∈ row.filter fun o => s.getD o 0 == i := by
              rw [hfl]
              exact List.mem_cons_self
            obtain ⟨q2, q3⟩ := List.mem_filter.mp q1
            have hao := (r6 o).mp q2
            have hso : s.getD o 0 = i := eq_of_beq q3
            rw [hfl] at pm3
            have hF4 := pm.1 _ _ hF3
            have hQ4 := pm.1 _ _ hQ3
            have sm4 := sm2.trans pm.1
            have lenF := len_lt_n mid.nd mid.lt
            refine ⟨L, _, 0, nV o, rfl, rfl, SqL.of pm3, atI_nat (j := 0) rfl, ?_⟩
            refine ⟨nV o, rfl, .ref lF, rfl, lF, F2.map nV, rfl, .inl (SqL.of hF4), rfl, flat_nats _, ?_⟩
            refine ⟨_, rfl, ?_⟩
            refine ite2 (fun e1 => ?_) (fun e1 => ?_)
            · have ho : o ∉ F2 := fun z => by
                have e2 : (!inV (nV o) (F2.map nV)) = true := e1
                rw [inV_nat, List.contains_iff_mem.mpr z] at e2
                cases e2
              have md := mid.add ho (hlt here o hao) hao hso
              have lenQ : Q2.length ≤ 1000 := by omega
              refine ⟨.ref lF, rfl, .inl ⟨rfl, _, SqL.of hF4⟩, nV o, rfl, lF, _, _, rfl, rfl, hF4, by rw [List.length_map]; exact small1000 (by omega), ?_⟩
              refine ⟨.ref lQ, rfl, .inl ⟨rfl, _, SqL.of ((upd_ne nFQ.symm).trans hQ4)⟩, nV o, rfl, lQ, _, _, rfl, rfl, (upd_ne nFQ.symm).trans hQ4, by rw [List.length_map]; exact small1000 lenQ, ?_⟩
              refine ⟨F2 ++ [o], Q2 ++ [o], _, _, rfl, fun b o' eb => ?_, ?_, ?_, md, ?_⟩
              · rw [upd_ne (ne_of_none eb nQ0), upd_ne (ne_of_none eb nF0)]
                exact sm4 _ _ eb
              · rw [upd_ne nFQ, upd_same, snoc_nV]
              · rw [upd_same, snoc_nV]
              · rw [List.length_append, List.length_append]
                exact Nat.add_le_add_right lQ2 _
            · have ho : o ∈ F2 := by
                have e2 : (!inV (nV o) (F2.map nV)) = false := eq_false_of_ne_true e1
                rw [inV_nat] at e2
                cases hc : F2.contains o with
                | true => exact List.contains_iff_mem.mp hc
                | false =>
                  rw [hc] at e2
                  cases e2
              exact ⟨F2, Q2, _, _, rfl, sm4, hF4, hQ4, mid.skip ho hao hso, lQ2⟩
      · rintro σ H2 ⟨F2, Q2, v6, v7, rfl, sm2, hF3, hQ3, mid, lQ2⟩
        obtain ⟨d1, d2⟩ := mid.done
        exact ⟨F2, Q2, _, _, _, rfl, sm2, hF3, hQ3, d1, lQ2, d2⟩
end
end Mx
end MxP10_
section MxP11_
set_option Elab.async false
set_option linter.all false
set_option maxRecDepth 100000
set_option maxHeartbeats 1000000
namespace Mx
open PySem PySem.Spec PyProof.Rows L2
section
variable {P : Program} {w : World} {K : PySem.W.Frag} {mg : Str → Option Value} {base : Heap}
/-- none, or what needed rooms show in a rest -/
def Found (n : Nat) (adj : Adj) (r num : Nat) (H : Hp) (v : V) : Prop := (v = .non ∧ ∀ s, IsRest n adj s → s.getD r 0 ≠ num) ∨
  ∃ (t : Addr) (s F : List Nat), v = .ref t ∧ H t = some (.tup (wit n s F)) ∧ IsRest n adj s ∧ s.getD r 0 = num ∧ Need n adj s r F
theorem Found.same {n : Nat} {adj : Adj} {r num : Nat} {H H' : Hp} {v : V} (h : Found n adj r num H v) (s : Same H H') : Found n adj r num H' v := by
  rcases h with h | ⟨t, s0, F, e1, e2, h⟩
  · exact .inl h
  · exact .inr ⟨t, s0, F, e1, s _ _ e2, h⟩
theorem Found.val {n : Nat} {adj : Adj} {r num : Nat} {H : Hp} {v : V} (h : Found n adj r num H v) : ∃ o, ValIs H v o := by
  rcases h with ⟨e, _⟩ | ⟨t, s0, F, e1, e2, _⟩
  · exact ⟨none, .inl ⟨e, rfl⟩⟩
  · exact ⟨_, .inr (.inr ⟨t, _, e1, e2, wit_flat, rfl⟩)⟩
def spWitness : Sp := fun vs H Q _ => ∃ (a : Addr) (n : Nat) (ds : List (Nat × Nat)) (r num : Nat), vs = [.ref a, nV r, nV num] ∧ HouseAt H a n ds ∧ r < n ∧ num ≤ 60 ∧
  ∀ H' v, Same H H' → Found n (adjOf ds) r num H' v → Q v H'
abbrev nWs : List Str := ["house", "room", "number", "rows", "best", "rest", "needed", "told", "here", "part"]
theorem scWitness : FnScope nWs ["house", "room", "number"] (defScope sWitness) := ⟨rfl, rfl, rfl, by decide +kernel, rfl, by decide +kernel, by decide +kernel⟩
/-- the best so far -/
def Best (n : Nat) (adj : Adj) (r num : Nat) (done : List (List Nat)) (v : V) (H : Hp) : Prop :=
  (v = .non ∧ ∀ s ∈ done, s.getD r 0 ≠ num) ∨ ∃ (bt t : Addr) (c : Nat) (s F : List Nat), v = .ref bt ∧ H bt = some (.tup [nV c, .ref t]) ∧ H t = some (.tup (wit n s F)) ∧ IsRest n adj s ∧ s.getD r 0 = num ∧ Need n adj s r F
theorem Best.same {n : Nat} {adj : Adj} {r num : Nat} {done : List (List Nat)} {v : V} {H H' : Hp} (h : Best n adj r num done v H) (s : Same H H') : Best n adj r num done v H' := by
  rcases h with h | ⟨bt, t, c, s0, F, e1, e2, e3, h⟩
  · exact .inl h
  · exact .inr ⟨bt, t, c, s0, F, e1, s _ _ e2, s _ _ e3, h⟩
theorem Best.skip {n : Nat} {adj : Adj} {r num : Nat} {done : List (List Nat)} {v : V} {H : Hp} (h : Best n adj r num done v H) {x : List Nat} (hx : x.getD r 0 ≠ num) : Best n adj r num (done ++ [x]) v H := by
  rcases h with ⟨e, h⟩ | h
  · refine .inl ⟨e, fun s hs => ?_⟩
    rcases List.mem_append.mp hs with z | z
    · exact h s z
    · rw [List.mem_singleton.mp z]
      exact hx
  · exact .inr h
theorem ok_witness (D : Df K mg "witness" sWitness ["house", "room", "number"]) (B : Blt mg) (C1 : Cal P w K mg base 4 "need_house" ["house"] spNeedHouse) (C2 : Cal P w K mg base 3 "need_room" ["house", "room"] spNeedRoom)
    (C3 : Cal P w K mg base 2 "is_in" psNum spIsIn) (C4 : Cal P w K mg base 1 "near" ["house"] spNear) (C5 : Cal P w K mg base 11 "all_rests" ["house"] spAllRests) (C6 : Cal P w K mg base 1 "needed_by" ["rows", "rest", "room"] spNeeded) :
    Cal P w K mg base 12 "witness" ["house", "room", "number"] spWitness := by
  refine D.cal scWitness (fun vs H Q E h => ?_) (fun f cdv A outer s0 H vs Q E hr h => ?_)
  · obtain ⟨a, n, ds, r, num, rfl, _⟩ := h
    rfl
  · obtain ⟨a, n, ds, r, num, rfl, hh, hrn, h60, q⟩ := h
    refine ⟨_, pss_cons (ps_expr (pe_cal C1 hr (by decide) (pa_cons (pv 0) pa_nil))) (pss_cons (ps_expr (pe_cal C2 hr (by decide) (pa_cons (pv 0) (pa_cons (pv 1) pa_nil))))
      (pss_cons (ps_if (pt_not (pt_val (pe_cal C3 hr (by decide) (pa_cons (pv 2) (pa_cons pe_int (pa_cons pe_int pa_nil)))))) pss_never pss_nil)
      (pss_cons (ps_par (i := 3) (j := 4) rfl scWitness.nd rfl rfl (by decide) rfl rfl (pa_cons (pe_cal C4 hr (by decide) (pa_cons (pv 0) pa_nil)) (pa_cons pe_non pa_nil)) rfl)
      (pss_cons (ps_for PassesOwn.never rfl (pi_list (pe_cal C5 hr (by decide) (pa_cons (pv 0) pa_nil))) (pg_name (i := 5) scWitness.nd rfl (.inl rfl))
        (pss_one (ps_if (pt_cmpR op_eq (pe_ix (r := rIxT K) ix_tup (pv 5) (pv 1) (fun _ _ => rfl)) (pv 2) (nomark _))
          (pss_cons (ps_set (i := 6) scWitness.nd rfl (.inr rfl) (pe_cal C6 hr (by decide) (pa_cons (pv 3) (pa_cons (pv 5) (pa_cons (pv 1) pa_nil)))))
          (pss_cons (ps_set (i := 7) scWitness.nd rfl (.inl rfl) (pe_tup (pa_cons (pe_callB call_len_seq (by rfl) B.len PySem.boot_len (pa_cons (pv 6) pa_nil)) (pa_cons (pe_callTy call_tuple_of (by rfl) B.tuple (by decide +kernel) (pa_cons
            (pe_lc (own := [("here", 8), ("part", 9)]) (g := gTup K 2 (gCons (gName 8) (gCons (gName 9) gNil))) (tt := tYes) rfl scWitness.nd (pi_enumT (by rfl) B.enumerate (pa_cons (pv 5) pa_nil)) (blkOk_by (N := nWs) (sc := defScope sWitness) (by decide +kernel))
              (fun _ _ _ _ _ => pg_tup rfl (pgs_cons (pg_name (i := 8) scWitness.nd rfl (.inl rfl)) (pgs_cons (pg_name (i := 9) scWitness.nd rfl (.inl rfl)) pgs_nil))) (fun _ _ _ _ _ => pts_nil)
              (fun _ _ _ _ _ => pe_ifExp (pt_cmpR (r := rIn K false) op_in_seq (pv 8) (pv 6) rfl) (pv 9) pe_non)) pa_nil)) pa_nil))))
          (pss_one (ps_set (i := 4) scWitness.nd rfl (.inl rfl) (pe_ifExp (PW.pt (pw_or (pt_cmpR op_isN (pv 4) pe_non (nomark _)) (pw_or1 (pt_cmpR op_lt (pe_ix (r := rIxT K) ix_tup (pv 7) pe_int (fun _ _ => rfl)) (pe_ix (r := rIxT K) ix_tup (pv 4) pe_int (fun _ _ => rfl)) (nomark _))))) (pv 7) (pv 4)))))) pss_nil)))
      (pss_one (ps_ret (pe_ifExp (pt_cmpR op_notN (pv 4) pe_non (nomark _)) (pe_ix (r := rIxT K) ix_tup (pv 4) pe_int (fun _ _ => rfl)) pe_non))))))), ?_⟩
    have G := hh.ok.gr
    have hn := hh.ok.le
    refine ⟨.ref a, rfl, a, n, ds, rfl, hh, fun H1 s1 => ?_⟩
    refine ⟨.ref a, rfl, nV r, rfl, a, n, ds, r, rfl, hh.same s1, hrn, ?_⟩
    refine ⟨nV num, rfl, _, "int", 0, 60, rfl, .int _, fun _ => ⟨_, rfl, ?_⟩, fun e => (inB_no (by omega) (by omega) e).elim⟩
    refine ⟨.ref a, rfl, a, n, ds, rfl, hh.same s1, fun H2 p s2 _ hp => ?_⟩
    have s12 := s1.trans s2
    refine ⟨_, _, rfl, ?_⟩
    refine ⟨.ref a, rfl, a, n, ds, rfl, hh.same s12, fun H3 l bs s3 hl hbs hm hlen => ?_⟩
    have s123 := s12.trans s3
    have hp3 := hp.same s3
    have isr : ∀ b ∈ bs, IsRest n (adjOf ds) b.2 := fun b hb => (hm b.2).mp (List.mem_map.mpr ⟨b, hb, rfl⟩)
    refine ⟨l, rfl, ⟨_, SqL.of hl⟩, for_list (K := K) (a := l) (xs := refs bs)
      (fun i σ H' => ∃ (v4 : V) (v5 v6 v7 : Option V), σ = [some (.ref a), some (nV r), some (nV num), some (.ref p), some v4, v5, v6, v7, none, none] ∧ Same H3 H' ∧ Best n (adjOf ds) r num ((dat bs).take i) v4 H')
      ⟨.non, none, none, none, rfl, Same.refl _, .inl ⟨rfl, by intro s hs; simp at hs⟩⟩ (fun i σ H' _ ⟨_, _, _, _, _, sm, _⟩ => SqL.of (sm _ _ hl)) ?_ ?_⟩
    · rintro i x σ H4 hx ⟨v4, v5, v6, v7, rfl, sm, bst⟩
      obtain ⟨b, hb, rfl⟩ := map_at hx
      have hbm := List.mem_of_getElem? hb
      have ir := isr b hbm
      have rest := ir.rest G
      have hdi : (dat bs)[i]? = some b.2 := at_map hb
      have hbt := sm _ _ (hbs b hbm)
      refine ⟨.ref b.1, rfl, nV r, rfl, b.1, _, _, nV (b.2.getD r 0), rfl, rfl, SqT.of hbt, atI_nat (getD_at (by rw [rest.len]; exact hrn)), nV num, rfl, rfl, _, rfl, ?_⟩
      refine ite2 (fun e1 => ?_) (fun e1 => ?_)
      · have e2 : b.2.getD r 0 = num := by
          have e3 := of_decide_eq_true e1
          injection e3 with e3
          omega
        refine ⟨.ref p, rfl, .ref b.1, rfl, nV r, rfl, p, b.1, n, adjOf ds, b.2, r, rfl, hp3.same sm, hbt, rest, hn, hrn, fun i j e => (G.lt i j e).2, fun H5 lF F s5 hF need => ?_⟩
        have lenF := len_lt_n need.nd need.lt
        have sm5 := sm.trans s5
        refine ⟨.ref lF, rfl, lF, F.map nV, rfl, .inl (SqL.of hF), .ref b.1, rfl, b.1, _, rfl, SqT.of (s5 _ _ hbt), fun L nL => lc_enumT (K := K) (a := b.1) (xs := b.2.map nV)
          (PM H5 L fun j => (List.range j).map fun i => if i ∈ F then nV (b.2.getD i 0) else .non) (PM.start nL) (fun j H' _ h => SqT.of (h.1 _ _ (s5 _ _ hbt))) ?_ ?_⟩
        · rintro j y T H6 hy pm nT
          obtain ⟨k, hk, rfl⟩ := map_at hy
          have hj := ix_lt hk
          rw [rest.len] at hj
          have ek : k = b.2.getD j 0 := by
            rw [List.getD_eq_getElem?_getD, hk]
            rfl
          have s6 : Same H6 (upd H6 T (.tup [nV j, nV k])) := same_upd nT
          refine ⟨T, [nV j, nV k], rfl, SqT.of upd_same, rfl, nV j, [nV k], rfl, nV k, [], rfl, rfl, rfl, ?_⟩
          refine ⟨nV j, rfl, .ref lF, rfl, lF, F.map nV, rfl, .inl (SqL.of (s6 _ _ (pm.1 _ _ hF))), rfl, flat_nats _, ?_⟩
          have nx : (List.range (j + 1)).map (fun i => if i ∈ F then nV (b.2.getD i 0) else .non) = (List.range j).map (fun i => if i ∈ F then nV (b.2.getD i 0) else .non) ++ [if j ∈ F then nV (b.2.getD j 0) else .non] := by
            rw [List.range_succ, List.map_append]
            rfl
          have sz : ((List.range j).map (fun i => if i ∈ F then nV (b.2.getD i 0) else V.non)).length < sizeLine := by
            rw [List.length_map, List.length_range]
            exact small1000 (by omega)
          refine ⟨_, rfl, ?_⟩
          refine ite2 (fun e3 => ?_) (fun e3 => ?_)
          · have e4 : inV (nV j) (F.map nV) = true := e3
            rw [inV_nat] at e4
            rw [if_pos (List.contains_iff_mem.mp e4), ← ek] at nx
            exact ⟨nV k, rfl, pm.step nL s6 nx sz⟩
          · have e4 : ¬ inV (nV j) (F.map nV) = true := e3
            rw [inV_nat, List.contains_iff_mem] at e4
            rw [if_neg e4] at nx
            exact pm.step nL s6 nx sz
        · rintro H6 pm
          have pm3 := pm.fin (l := wit n b.2 F) (by
            rw [List.length_map, rest.len]
            rfl)
          refine ⟨L, _, rfl, .inl ⟨SqL.of pm3, fun t nt => ?_⟩⟩
          refine ⟨by show 2 ≤ sizeLine; decide, fun tt ntt => ?_⟩
          have s7 : Same H6 (upd H6 t (.tup (wit n b.2 F))) := same_upd nt
          have s8 := s7.trans (same_upd ntt (o := .tup [V.int ((F.map nV).length : Nat), .ref t]))
          have sm8 := (sm5.trans pm.1).trans s8
          have bst8 := ((bst.same s5).same pm.1).same s8
          have ht8 := (same_upd ntt (o := .tup [V.int ((F.map nV).length : Nat), .ref t])) _ _ (upd_same (H := H6) (a := t) (o := .tup (wit n b.2 F)))
          have new : Best n (adjOf ds) r num ((dat bs).take (i + 1)) (.ref tt) (upd (upd H6 t (.tup (wit n b.2 F))) tt (.tup [V.int ((F.map nV).length : Nat), .ref t])) :=
            .inr ⟨tt, t, _, b.2, F, rfl, upd_same, ht8, ir, e2, need⟩
          refine ⟨v4, rfl, rfl, _, rfl, ?_⟩
          rcases bst8 with ⟨rfl, hd⟩ | ⟨bt, t2, c, s9, F9, rfl, hb1, hb2, hb3⟩
          · exact ⟨.ref tt, rfl, .ref tt, _, _, _, rfl, sm8, new⟩
          · refine ⟨.ref tt, rfl, tt, _, 0, _, rfl, rfl, SqT.of upd_same, atI_nat (j := 0) rfl, .ref bt, rfl, bt, _, 0, _, rfl, rfl, SqT.of hb1, atI_nat (j := 0) rfl, _, _, rfl, rfl, _, rfl, ?_⟩
            refine ite2 (fun e5 => ?_) (fun e5 => ?_)
            · exact ⟨.ref tt, rfl, .ref tt, _, _, _, rfl, sm8, new⟩
            · exact ⟨.ref bt, rfl, .ref bt, _, _, _, rfl, sm8, .inr ⟨bt, t2, c, s9, F9, rfl, hb1, hb2, hb3⟩⟩
      · refine ⟨v4, _, v6, v7, rfl, sm, ?_⟩
        rw [take_at hdi]
        refine bst.skip fun e2 => e1 (decide_eq_true (by rw [e2]))
    · rintro σ H4 ⟨v4, v5, v6, v7, rfl, sm, bst⟩
      have ed : (dat bs).take (refs bs).length = dat bs := List.take_of_length_le (by rw [List.length_map, List.length_map]; exact Nat.le_refl _)
      rw [ed] at bst
      rcases bst with ⟨rfl, hd⟩ | ⟨bt, t2, c, s9, F9, rfl, hb1, hb2, hb3, hb4, hb5⟩
      · refine ⟨.non, rfl, rfl, _, rfl, ?_⟩
        exact q _ _ (s123.trans sm) (.inl ⟨rfl, fun s hs => hd s ((hm s).mpr hs)⟩)
      · refine ⟨.ref bt, rfl, rfl, _, rfl, ?_⟩
        refine ⟨.ref bt, rfl, bt, _, 1, .ref t2, rfl, rfl, SqT.of hb1, atI_nat (j := 1) rfl, ?_⟩
        exact q _ _ (s123.trans sm) (.inr ⟨t2, s9, F9, rfl, hb2, hb3, hb4, hb5⟩)
end
end Mx
end MxP11_
section MxP12_
set_option Elab.async false
set_option linter.all false
set_option maxRecDepth 100000
set_option maxHeartbeats 1000000
namespace Mx
open PySem PySem.Spec PyProof.Rows L2
/-- the row that draws, behind H0 -/
structure RowAt (K : PySem.W.Frag) (H0 H : Hp) (rw sc : Addr) (ns : List Int) : Prop where
  at_ : ∃ (i : Nat) (j k : Int), H rw = some (.lst [.ref sc, nV i, .int j, .int k]) ∧ 0 ≤ j ∧ j < 2147483647
  nw : H0 rw = none
  sm : Same H0 H
  sq : SqL K H0 sc (ns.map V.int)
theorem RowAt.same {K : PySem.W.Frag} {H0 H H' : Hp} {rw sc : Addr} {ns : List Int} (h : RowAt K H0 H rw sc ns) (s : Same H H') : RowAt K H0 H' rw sc ns := by
  obtain ⟨⟨i, j, k, e, b⟩, h2, h3, h4⟩ := h
  exact ⟨⟨i, j, k, s _ _ e, b⟩, h2, h3.trans s, h4⟩
theorem RowAt.put {K : PySem.W.Frag} {H0 H : Hp} {rw sc : Addr} {ns : List Int} (h : RowAt K H0 H rw sc ns) {i : Nat} {j k : Int} (h1 : 0 ≤ j) (h2 : j < 2147483647) : RowAt K H0 (upd H rw (.lst [.ref sc, nV i, .int j, .int k])) rw sc ns :=
  ⟨⟨i, j, k, upd_same, h1, h2⟩, h.nw, fun b o e => by
    rw [upd_ne (ne_of_none e h.nw)]
    exact h.sm _ _ e, h.sq⟩
theorem RowAt.sq' {K : PySem.W.Frag} {H0 H : Hp} {rw sc : Addr} {ns : List Int} (h : RowAt K H0 H rw sc ns) : SqL K H sc (ns.map V.int) := h.sm.seq h.sq
/-- what is no list like the row stays -/
theorem RowAt.ne {K : PySem.W.Frag} {H0 H : Hp} {rw sc : Addr} {ns : List Int} (h : RowAt K H0 H rw sc ns) {a : Addr} {o : HO} (ha : H a = some o) (n : ∀ i j k, o ≠ .lst [.ref sc, .int i, .int j, .int k]) : a ≠ rw := by
  obtain ⟨⟨i, j, k, e, _⟩, _⟩ := h
  exact ne_of ha e (n _ _ _)
theorem RowAt.neT {K : PySem.W.Frag} {H0 H : Hp} {rw sc : Addr} {ns : List Int} (h : RowAt K H0 H rw sc ns) {a : Addr} {xs : List V} (ha : H a = some (.tup xs)) : a ≠ rw := h.ne ha fun _ _ _ z => by cases z
theorem RowAt.neR {K : PySem.W.Frag} {H0 H : Hp} {rw sc : Addr} {ns : List Int} (h : RowAt K H0 H rw sc ns) {α : Type} {a : Addr} {bs : List (Addr × α)} (ha : H a = some (.lst (refs bs))) : a ≠ rw := h.ne ha fun _ _ _ z => by
  injection z with z
  rcases bs with _ | ⟨b, _ | ⟨c, bs⟩⟩ <;> cases z
theorem RowAt.neN {K : PySem.W.Frag} {H0 H : Hp} {rw sc : Addr} {ns : List Int} (h : RowAt K H0 H rw sc ns) {a : Addr} {l : List Nat} (ha : H a = some (.lst (l.map nV))) : a ≠ rw := h.ne ha fun _ _ _ z => by
  injection z with z
  rcases l with _ | ⟨b, l⟩ <;> cases z
theorem RowsAt.butR {K : PySem.W.Frag} {H0 H H' : Hp} {rw sc p : Addr} {ns : List Int} {n : Nat} {adj : Adj} (h : RowsAt H p n adj) (r : RowAt K H0 H rw sc ns) (s : But rw H H') : RowsAt H' p n adj := by
  obtain ⟨rs, h1, h2, h3, h4⟩ := h.ex
  exact ⟨rs, s _ _ (r.neR h1) h1, h2, fun b hb => s _ _ (r.neN (h3 b hb)) (h3 b hb), h4⟩
theorem HouseAt.but {K : PySem.W.Frag} {H0 H H' : Hp} {rw sc a : Addr} {ns : List Int} {n : Nat} {ds : List (Nat × Nat)} (h : HouseAt H a n ds) (r : RowAt K H0 H rw sc ns) (s : But rw H H') : HouseAt H' a n ds := by
  obtain ⟨⟨d, ps, h1, h2, h3, h4⟩, k⟩ := h
  exact ⟨⟨d, ps, s _ _ (r.neT h1) h1, s _ _ (r.neT h2) h2, h3, fun b hb => s _ _ (r.neT (h4 b hb)) (h4 b hb)⟩, k⟩
theorem mod_nat (x : Int) {m : Nat} (h : 0 < m) : ∃ r : Nat, r < m ∧ x % (m : Int) = (r : Int) := by
  have h1 : 0 ≤ x % (m : Int) := Int.emod_nonneg x (by omega)
  have h2 : x % (m : Int) < (m : Int) := Int.emod_lt_of_pos x (by omega)
  exact ⟨(x % (m : Int)).toNat, by omega, (Int.toNat_of_nonneg h1).symm⟩
section
variable {X : Cx}
/-- % by a number of rooms and the like: what comes is below it -/
def rModA : R2 := fun x y H Q => ∃ (i : Int) (m : Nat), x = .int i ∧ y = nV m ∧ 0 < m ∧ ∀ r : Nat, r < m → Q (nV r) H
theorem op_modA : OpR X (binaryOp .Mod) rModA := by
  intro pins s σ H x y v u Q I rx ry h
  obtain ⟨i, m, rfl, rfl, hm, q⟩ := h
  obtain ⟨r, hr, e⟩ := mod_nat i hm
  refine op_mod pins s σ H _ _ v u Q I rx ry ⟨i, _, rfl, rfl, (by show (0 : Int) < (m : Int); omega), ?_⟩
  show Q (.int (i % (m : Int))) H
  rw [e]
  exact q r hr
end
theorem two31 : (0 : Int) < 2147483647 := by decide
theorem mod_rng (x : Int) : 0 ≤ x % 2147483647 ∧ x % 2147483647 < 2147483647 := ⟨Int.emod_nonneg x (by decide), Int.emod_lt_of_pos x (by decide)⟩
section
variable {P : Program} {w : World} {K : PySem.W.Frag} {mg : Str → Option Value} {base : Heap}
def spTaken (K : PySem.W.Frag) : Sp := fun vs H Q _ => ∃ (H0 : Hp) (rw sc : Addr) (ns : List Int) (m : Nat), vs = [.ref rw, nV m] ∧ RowAt K H0 H rw sc ns ∧ 0 < m ∧ m < 1073741824 ∧
  ∀ H' (r : Nat), r < m → But rw H H' → RowAt K H0 H' rw sc ns → Q (nV r) H'
abbrev psTk : List Str := ["_law_row", "_law_many"]
theorem scTaken : FnScope ["_law_row", "_law_many", "_law_found", "_law_cell"] psTk (defScope sTaken) := ⟨rfl, rfl, rfl, by decide +kernel, rfl, by decide +kernel, by decide +kernel⟩
theorem ok_taken (D : Df K mg "_law_taken" sTaken psTk) (B : Blt mg) : Cal P w K mg base 1 "_law_taken" psTk (spTaken K) := by
  refine D.cal scTaken (fun vs H Q E h => ?_) (fun f cdv A outer s H vs Q E hr h => ?_)
  · obtain ⟨H0, rw, sc, ns, m, rfl, _⟩ := h
    rfl
  · obtain ⟨H0, rw, sc, ns, m, rfl, ra, hm0, hm1, q⟩ := h
    refine ⟨_, pss_cons (ps_if (pt_cmpR op_gt (pe_ix ix_list (pv 0) pe_int (fun _ _ => rfl)) pe_int (nomark _))
        (pss_cons (ps_set (i := 2) scTaken.nd rfl (.inl rfl) (pe_op op_modA (pe_callTy call_int1 (by rfl) B.int (by decide +kernel) (pa_cons (pe_ix ix_list (pv 0) pe_int (fun _ _ => rfl)) pa_nil)) (pv 1)))
        (pss_cons (ps_asg (pe_op op_fdiv (pe_ix ix_list (pv 0) pe_int (fun _ _ => rfl)) (pv 1)) (pg_sub (pv 0) pe_int set_list)) (pss_one (ps_ret (pv 2))))) pss_nil)
      (pss_cons (ps_asg (pe_op op_add (pe_ix ix_list (pv 0) pe_int (fun _ _ => rfl)) pe_int) (pg_sub (pv 0) pe_int set_list))
      (pss_cons (ps_if (pt_cmpR op_gt (pe_ix ix_list (pv 0) pe_int (fun _ _ => rfl)) (pe_callB call_len_seq (by rfl) B.len PySem.boot_len (pa_cons (pe_ix ix_list (pv 0) pe_int (fun _ _ => rfl)) pa_nil)) (nomark _))
        (pss_cons (ps_asg (pe_op op_mod (pe_callTy call_int1 (by rfl) B.int (by decide +kernel) (pa_cons (pe_op op_add (pe_op op_mul (pe_ix ix_list (pv 0) pe_int (fun _ _ => rfl)) pe_int) pe_int) pa_nil)) pe_int) (pg_sub (pv 0) pe_int set_list))
        (pss_one (ps_ret (pe_op op_modA (pe_callTy call_int1 (by rfl) B.int (by decide +kernel) (pa_cons (pe_op op_fdiv (pe_ix ix_list (pv 0) pe_int (fun _ _ => rfl)) pe_int) pa_nil)) (pv 1))))) pss_nil)
      (pss_cons (ps_set (i := 3) scTaken.nd rfl (.inl rfl) (pe_ix ix_list (pe_ix ix_list (pv 0) pe_int (fun _ _ => rfl)) (pe_op op_sub (pe_ix ix_list (pv 0) pe_int (fun _ _ => rfl)) pe_int) (fun _ _ => rfl)))
      (pss_cons (ps_asg (pe_op op_mod (pe_callTy call_int1 (by rfl) B.int (by decide +kernel) (pa_cons (pe_op op_add (pe_op op_add (pe_op op_mul (pe_ix ix_list (pv 0) pe_int (fun _ _ => rfl)) pe_int) (pv 3)) pe_int) pa_nil)) pe_int) (pg_sub (pv 0) pe_int set_list))
      (pss_cons (ps_if (pt_cmpR op_ge (pv 3) (pe_op op_pow pe_int pe_int) (nomark _)) (pss_one (ps_asg (pe_op op_fdiv (pv 3) (pv 1)) (pg_sub (pv 0) pe_int set_list))) pss_nil)
      (pss_one (ps_ret (pe_op op_modA (pe_callTy call_int1 (by rfl) B.int (by decide +kernel) (pa_cons (pv 3) pa_nil)) (pv 1))))))))), ?_⟩
    obtain ⟨i, j, k, hR, j0, j1⟩ := ra.at_
    refine ⟨.ref rw, rfl, rw, _, 3, .int k, rfl, rfl, SqL.of hR, atI_nat (j := 3) rfl, _, _, rfl, rfl, _, rfl, ?_⟩
    refine ite2 (fun e1 => ?_) (fun e1 => ?_)
    · -- digits of a great cell
      refine ⟨.ref rw, rfl, rw, _, 3, .int k, rfl, rfl, SqL.of hR, atI_nat (j := 3) rfl, .inl ⟨k, rfl, nV m, rfl, k, m, rfl, rfl, hm0, fun r hr1 => ?_⟩⟩
      refine ⟨.ref rw, rfl, rw, _, 3, .int k, rfl, rfl, SqL.of hR, atI_nat (j := 3) rfl, nV m, rfl, k, _, rfl, rfl, ⟨by omega, by omega⟩, ?_⟩
      refine ⟨.ref rw, rfl, rw, _, 3, 3, rfl, rfl, hR, rfl, ?_⟩
      exact ⟨nV r, rfl, q _ r hr1 but_upd (ra.put j0 j1)⟩
    · refine ⟨.ref rw, rfl, rw, _, 1, nV i, rfl, rfl, SqL.of hR, atI_nat (j := 1) rfl, _, _, rfl, rfl, .ref rw, rfl, rw, _, 1, 1, rfl, rfl, hR, rfl, ?_⟩
      have ra1 : RowAt K H0 (upd H rw (.lst [.ref sc, nV (i + 1), .int j, .int k])) rw sc ns := ra.put j0 j1
      have b1 : But rw H (upd H rw (.lst [.ref sc, nV (i + 1), .int j, .int k])) := but_upd
      have hR1 : (upd H rw (.lst [.ref sc, nV (i + 1), .int j, .int k])) rw = some (.lst [.ref sc, nV (i + 1), .int j, .int k]) := upd_same
      have eH : (upd H rw (.lst [.ref sc, nV (i + 1), .int j, .int k])) = upd H rw (HO.lst ([V.ref sc, nV i, .int j, .int k].set 1 (.int ((i : Int) + 1)))) := rfl
      rw [← eH]
      generalize (upd H rw (.lst [.ref sc, nV (i + 1), .int j, .int k])) = H1 at ra1 b1 hR1 ⊢
      refine ⟨.ref rw, rfl, rw, _, 1, nV (i + 1), rfl, rfl, SqL.of hR1, atI_nat (j := 1) rfl, .ref rw, rfl, rw, _, 0, .ref sc, rfl, rfl, SqL.of hR1, atI_nat (j := 0) rfl, sc, _, rfl, .inl ra1.sq', _, _, rfl, rfl, _, rfl, ?_⟩
      refine ite2 (fun e2 => ?_) (fun e2 => ?_)
      · obtain ⟨u1, u2⟩ := mod_rng (j * 48271 + 11)
        refine ⟨.ref rw, rfl, rw, _, 2, .int j, rfl, rfl, SqL.of hR1, atI_nat (j := 2) rfl, j, _, rfl, rfl, .inl ⟨by omega, by omega⟩, _, _, rfl, rfl, .inl ⟨_, rfl, _, _, rfl, rfl, two31, .ref rw, rfl, rw, _, 2, 2, rfl, rfl, hR1, rfl, ?_⟩⟩
        refine ⟨.ref rw, rfl, rw, _, 2, .int ((j * 48271 + 11) % 2147483647), rfl, rfl, SqL.of upd_same, atI_nat (j := 2) rfl, _, _, rfl, rfl, ⟨by decide, by decide⟩, .inl ⟨_, rfl, nV m, rfl, _, m, rfl, rfl, hm0, fun r hr1 => ?_⟩⟩
        exact q _ r hr1 b1.upd (ra1.put u1 u2)
      · have hi : i < ns.length := by
          have e3 : ¬ (((ns.map V.int).length : Nat) : Int) < ((i + 1 : Nat) : Int) := fun z => e2 (decide_eq_true z)
          rw [List.length_map] at e3
          omega
        have hc : (ns.map V.int)[i]? = some (.int ns[i]) := at_map (List.getElem?_eq_getElem hi)
        obtain ⟨u1, u2⟩ := mod_rng (j * 48271 + ns[i] + 11)
        refine ⟨.ref rw, rfl, rw, _, 0, .ref sc, rfl, rfl, SqL.of hR1, atI_nat (j := 0) rfl, .ref rw, rfl, rw, _, 1, nV (i + 1), rfl, rfl, SqL.of hR1, atI_nat (j := 1) rfl, _, _, rfl, rfl, sc, _, _, .int ns[i], rfl, rfl, ra1.sq', at_of (j := i) (by show ((i + 1 : Nat) : Int) - 1 = (i : Int); omega) hc, ?_⟩
        refine ⟨.ref rw, rfl, rw, _, 2, .int j, rfl, rfl, SqL.of hR1, atI_nat (j := 2) rfl, j, _, rfl, rfl, .inl ⟨by omega, by omega⟩, .int ns[i], rfl, _, _, rfl, rfl, _, _, rfl, rfl, .inl ⟨_, rfl, _, _, rfl, rfl, two31, .ref rw, rfl, rw, _, 2, 2, rfl, rfl, hR1, rfl, ?_⟩⟩
        have ra2 : RowAt K H0 (upd H1 rw (.lst [.ref sc, nV (i + 1), .int ((j * 48271 + ns[i] + 11) % 2147483647), .int k])) rw sc ns := ra1.put u1 u2
        have b2 : But rw H (upd H1 rw (.lst [.ref sc, nV (i + 1), .int ((j * 48271 + ns[i] + 11) % 2147483647), .int k])) := b1.upd
        have hR2 : (upd H1 rw (.lst [.ref sc, nV (i + 1), .int ((j * 48271 + ns[i] + 11) % 2147483647), .int k])) rw = some (.lst [.ref sc, nV (i + 1), .int ((j * 48271 + ns[i] + 11) % 2147483647), .int k]) := upd_same
        have eH2 : (upd H1 rw (.lst [.ref sc, nV (i + 1), .int ((j * 48271 + ns[i] + 11) % 2147483647), .int k])) = upd H1 rw (HO.lst ([V.ref sc, nV (i + 1), .int j, .int k].set 2 (.int ((j * 48271 + ns[i] + 11) % 2147483647)))) := rfl
        rw [← eH2]
        generalize (upd H1 rw (.lst [.ref sc, nV (i + 1), .int ((j * 48271 + ns[i] + 11) % 2147483647), .int k])) = H2 at ra2 b2 hR2 ⊢
        refine ⟨.int ns[i], rfl, 10, 18, rfl, rfl, ⟨by decide, by decide, by decide⟩, _, _, rfl, rfl, _, rfl, ?_⟩
        refine ite2 (fun e3 => ?_) (fun e3 => ?_)
        · refine ⟨.int ns[i], rfl, nV m, rfl, _, _, rfl, rfl, ⟨by omega, by omega⟩, .ref rw, rfl, rw, _, 3, 3, rfl, rfl, hR2, rfl, ?_⟩
          refine ⟨.int ns[i], rfl, .inl ⟨_, rfl, nV m, rfl, _, m, rfl, rfl, hm0, fun r hr1 => ?_⟩⟩
          exact q _ r hr1 b2.upd (ra2.put u1 u2)
        · refine ⟨.int ns[i], rfl, .inl ⟨_, rfl, nV m, rfl, _, m, rfl, rfl, hm0, fun r hr1 => ?_⟩⟩
          exact q _ r hr1 b2 ra2
end
end Mx
end MxP12_
section MxP13_
set_option Elab.async false
set_option linter.all false
set_option maxRecDepth 100000
set_option maxHeartbeats 1000000
namespace Mx
open PySem PySem.Spec PyProof.Rows L2
section
variable {P : Program} {w : World} {K : PySem.W.Frag} {mg : Str → Option Value} {base : Heap}
abbrev nLn : List Str := ["_law_house_here", "_law_found", "_law_one", "_law_other", "_law_room"]
theorem scLNear : FnScope nLn ["_law_house_here"] (defScope sLNear) := ⟨rfl, rfl, rfl, by decide +kernel, rfl, by decide +kernel, by decide +kernel⟩
theorem ok_lnear (D : Df K mg "_law_near" sLNear ["_law_house_here"]) (B : Blt mg) : Cal P w K mg base 1 "_law_near" ["_law_house_here"] spNear := by
  refine D.cal scLNear (fun vs H Q E h => ?_) (fun f cdv A outer s H vs Q E hr h => ?_)
  · obtain ⟨a, n, ds, rfl, _⟩ := h
    rfl
  · obtain ⟨a, n, ds, rfl, hh, q⟩ := h
    refine ⟨_, pss_cons (ps_setLc (i := 1) (own := [("_law_room", 4)]) (g := gName 4) (tt := tYes) rfl scLNear.nd rfl rfl (sw_true rfl rfl rfl (by decide +kernel)) (pi_range1 (by rfl) B.range (pa_cons (pe_ix ix_tup (pv 0) pe_int (fun _ _ => rfl)) pa_nil))
        (blkOk_by (N := nLn) (sc := defScope sLNear) (by decide +kernel)) (fun _ _ _ _ _ => pg_name (i := 4) scLNear.nd rfl (.inl rfl)) (fun _ _ _ _ _ => pts_nil) (fun _ _ _ _ _ => pe_lst pa_nil))
      (pss_cons (ps_for PassesOwn.never rfl (pi_tup (pe_ix ix_tup (pv 0) pe_int (fun _ _ => rfl))) (pg_tup rfl (pgs_cons (pg_name (i := 2) scLNear.nd rfl (.inl rfl)) (pgs_cons (pg_name (i := 3) scLNear.nd rfl (.inl rfl)) pgs_nil)))
        (pss_cons (ps_expr (pe_bm PySem.F.plainAttrs_list PySem.F.slot_list_append PySem.F.type_list_append mt_append (pe_ix ix_list (pv 1) (pv 2) (fun _ _ => rfl)) (pa_cons (pv 3) pa_nil)))
        (pss_one (ps_expr (pe_bm PySem.F.plainAttrs_list PySem.F.slot_list_append PySem.F.type_list_append mt_append (pe_ix ix_list (pv 1) (pv 3) (fun _ _ => rfl)) (pa_cons (pv 2) pa_nil))))))
      (pss_one (ps_ret (pv 1)))), ?_⟩
    obtain ⟨d, ps, h1, h2, h3, h4⟩ := hh.ex
    have p1 := hh.ok.pos
    have p2 := hh.ok.le
    have p3 := hh.ok.many
    -- found = [[] for room in range(house[0])]
    refine ⟨.ref a, rfl, a, _, 0, nV n, rfl, rfl, .inl (.inl h1), atI_nat (j := 0) rfl, n, rfl, by omega, by omega, fun F nF => lc_range (lo := 0) (n := n)
      (fun i H' => ∃ qs : List Addr, qs.length = i ∧ Grows H H' F qs fun _ => []) ⟨[], rfl, Grows.start nF⟩ ?_ ?_⟩
    · rintro i H' hi ⟨qs, hl, g⟩
      refine ⟨rfl, Nat.zero_le _, fun r nr => ?_⟩
      have nFr : F ≠ r := ne_of_none g.at_ nr
      refine ⟨_, (upd_ne nFr).trans g.at_, ?_, qs ++ [r], by rw [List.length_append, hl]; rfl, g.more nr⟩
      rw [List.length_map, hl]
      exact small1000 (by omega)
    rintro H1 ⟨qs, hl, g⟩
    -- the doors
    refine ⟨.ref a, rfl, a, _, 1, .ref d, rfl, rfl, .inl (.inl (g.same _ _ h1)), atI_nat (j := 1) rfl, d, rfl, ⟨_, .inl (.inl (g.same _ _ h2))⟩, for_tup (K := K) (a := d) (xs := refs ps)
      (fun i σ H' => ∃ v2 v3, σ = [some (.ref a), some (.ref F), v2, v3, none] ∧ Grows H H' F qs (rowsOf (ds.take i))) ⟨none, none, rfl, g⟩ (fun i σ H' _ ⟨_, _, _, g⟩ => .inl (.inl (g.same _ _ h2))) ?_ ?_⟩
    · rintro i x σ H2 hx ⟨v2, v3, rfl, g⟩
      obtain ⟨b, hb, rfl⟩ := map_at hx
      have hbm := List.mem_of_getElem? hb
      have hbd : b.2 ∈ ds := by
        rw [← h3]
        exact List.mem_map.mpr ⟨b, hbm, rfl⟩
      obtain ⟨l1, l2⟩ := hh.ok.lt b.2 hbd
      have e1 : qs[b.2.1]? = some qs[b.2.1] := List.getElem?_eq_getElem (by omega)
      have e2 : qs[b.2.2]? = some qs[b.2.2] := List.getElem?_eq_getElem (by omega)
      have g1 := g.app (j := b.2.2) e1
      have g2 := g1.app (j := b.2.1) e2
      have lenr : ∀ k, (rowsOf (ds.take i) k).length ≤ 56 := fun k => by
        have := rowsOf_len k _ (ds.take i) rfl
        have := List.length_take (i := i) (l := ds)
        omega
      have hd1 : ds[i]? = some b.2 := by
        rw [← h3]
        exact at_map hb
      refine ⟨b.1, dV b.2, rfl, .inl (.inl (g.same _ _ (h4 b hbm))), rfl, nV b.2.1, [nV b.2.2], rfl, nV b.2.2, [], rfl, rfl, ?_⟩
      refine ⟨.ref F, rfl, nV b.2.1, rfl, F, _, _, .ref qs[b.2.1], rfl, rfl, SqL.of g.at_, atI_nat (at_map e1), .inl ⟨rfl, _, SqL.of (g.row _ _ e1)⟩, nV b.2.2, rfl, _, _, _, rfl, rfl, g.row _ _ e1, ?_, ?_⟩
      · rw [List.length_map]
        have := lenr b.2.1
        exact small1000 (by omega)
      · refine ⟨.ref F, rfl, nV b.2.2, rfl, F, _, _, .ref qs[b.2.2], rfl, rfl, SqL.of g1.at_, atI_nat (at_map e2), .inl ⟨rfl, _, SqL.of (g1.row _ _ e2)⟩, nV b.2.1, rfl, _, _, _, rfl, rfl, g1.row _ _ e2, ?_, ?_⟩
        · rw [List.length_map]
          have := lenr b.2.2
          have := len_bump (f := rowsOf (ds.take i)) (i := b.2.1) (j := b.2.2) (k := b.2.2)
          exact small1000 (by omega)
        · refine ⟨_, _, rfl, ?_⟩
          rw [take_at hd1, rowsOf_snoc]
          exact g2
    · rintro σ H2 ⟨v2, v3, rfl, g⟩
      have e3 : ds.take (refs ps).length = ds := by
        refine List.take_of_length_le ?_
        rw [← h3, List.length_map, List.length_map]
        exact Nat.le_refl _
      rw [e3] at g
      exact ⟨.ref F, rfl, q H2 F g.same g.newF (g.rows hl p3)⟩
def spPick (K : PySem.W.Frag) : Sp := fun vs H Q _ => ∃ (H0 : Hp) (rw sc l : Addr) (ns : List Int) (bs : Tups), vs = [.ref rw, .ref l] ∧ RowAt K H0 H rw sc ns ∧ H l = some (.lst (refs bs)) ∧ bs ≠ [] ∧ bs.length ≤ 2097152 ∧
  ∀ H' b, b ∈ bs → But rw H H' → RowAt K H0 H' rw sc ns → Q (.ref b.1) H'
abbrev psPk : List Str := ["_law_row", "_law_things"]
theorem scPick : FnScope psPk psPk (defScope sPick) := ⟨rfl, rfl, rfl, by decide +kernel, rfl, by decide +kernel, by decide +kernel⟩
theorem ok_pick (D : Df K mg "_law_pick" sPick psPk) (B : Blt mg) (C : Cal P w K mg base 1 "_law_taken" psTk (spTaken K)) : Cal P w K mg base 2 "_law_pick" psPk (spPick K) := by
  refine D.cal scPick (fun vs H Q E h => ?_) (fun f cdv A outer s H vs Q E hr h => ?_)
  · obtain ⟨H0, rw, sc, l, ns, bs, rfl, _⟩ := h
    rfl
  · obtain ⟨H0, rw, sc, l, ns, bs, rfl, ra, hl, hne, hlen, q⟩ := h
    refine ⟨_, pss_one (ps_ret (pe_ix ix_list (pv 1) (pe_cal C hr (by decide) (pa_cons (pv 0) (pa_cons (pe_callB call_len_seq (by rfl) B.len PySem.boot_len (pa_cons (pv 1) pa_nil)) pa_nil))) (fun _ _ => rfl))), ?_⟩
    have hpos := List.length_pos_iff.mpr hne
    have elen : (refs bs).length = bs.length := by rw [List.length_map]
    refine ⟨.ref l, rfl, .ref rw, rfl, .ref l, rfl, l, _, rfl, .inl (SqL.of hl), H0, rw, sc, ns, (refs bs).length, rfl, ra, by omega, by omega, fun H' r hr1 b1 ra1 => ?_⟩
    have hrb : r < bs.length := by omega
    exact ⟨l, _, _, .ref bs[r].1, rfl, rfl, SqL.of (b1 _ _ (ra.neR hl) hl), atI_nat (at_map (List.getElem?_eq_getElem hrb)), q H' bs[r] (List.getElem_mem hrb) b1 ra1⟩
def spAlike : Sp := fun vs H Q _ => ∃ (b c : Bool), vs = [.bl b, .bl c] ∧ ∀ H', Same H H' → Q (.bl (b == c)) H'
abbrev psAk : List Str := ["_law_found", "_law_due"]
theorem scAlike : FnScope ["_law_found", "_law_due", "_law_k"] psAk (defScope sAlike) := ⟨rfl, rfl, rfl, by decide +kernel, rfl, by decide +kernel, by decide +kernel⟩
theorem ok_alike (D : Df K mg "_law_alike" sAlike psAk) (B : Blt mg) : Cal P w K mg base 1 "_law_alike" psAk spAlike := by
  refine D.cal scAlike (fun vs H Q E h => ?_) (fun f cdv A outer s H vs Q E hr h => ?_)
  · obtain ⟨b, c, rfl, _⟩ := h
    rfl
  · obtain ⟨b, c, rfl, q⟩ := h
    refine ⟨_, pss_cons (ps_if (pt_val (pe_callB call_isK2 (by rfl) B.isinstance (by decide +kernel) (pa_cons (pv 1) (pa_cons (pe_tup (pa_cons (pe_bltn (v := .ty "tuple") (by rfl) B.tuple (by decide +kernel) rfl) (pa_cons (pe_bltn (v := .ty "list") (by rfl) B.list (by decide +kernel) rfl) pa_nil))) pa_nil)))) pss_never pss_nil)
      (pss_cons (ps_if (PW.pt (pw_or (pt_cmpR op_isN (pv 1) pe_non (nomark _)) (pw_or1 (pt_val (pe_callB call_isK (by rfl) B.isinstance (by decide +kernel) (pa_cons (pv 1) (pa_cons (pe_bltn (v := .ty "str") (by rfl) B.str (by decide +kernel) rfl) pa_nil))))))) pss_never pss_nil)
      (pss_one (ps_ret (pe_and (pe_callB call_isK (by rfl) B.isinstance (by decide +kernel) (pa_cons (pv 0) (pa_cons (pe_bltn (v := .ty "int") (by rfl) B.int (by decide +kernel) rfl) pa_nil)))
        (pe_and (pe_cmpR op_eq (pe_callB call_isK (by rfl) B.isinstance (by decide +kernel) (pa_cons (pv 0) (pa_cons (pe_bltn (v := .ty "bool") (by rfl) B.bool (by decide +kernel) rfl) pa_nil))) (pe_callB call_isK (by rfl) B.isinstance (by decide +kernel) (pa_cons (pv 1) (pa_cons (pe_bltn (v := .ty "bool") (by rfl) B.bool (by decide +kernel) rfl) pa_nil))) (nomark _))
          (pe_one (pe_cmpR op_eq (pv 0) (pv 1) (nomark _)))))))), ?_⟩
    refine ⟨.bl c, rfl, by show 2 ≤ sizeLine; decide, fun tp ntp => ?_⟩
    refine ⟨.bl c, tp, "bool", "tuple", "list", rfl, upd_same, .bl c, by decide, by decide, _, rfl, iteB (by decide) ?_⟩
    refine ⟨.bl c, rfl, rfl, _, rfl, iteB (decide_eq_false fun z => by cases z) ?_⟩
    refine ⟨.bl c, rfl, .bl c, "bool", "str", rfl, .bl c, by decide, _, rfl, iteB (by decide) ?_⟩
    refine ⟨.bl b, rfl, .bl b, "bool", "int", rfl, .bl b, by decide, _, rfl, iteA (by decide) ?_⟩
    refine ⟨.bl b, rfl, .bl b, "bool", "bool", rfl, .bl b, by decide, .bl c, rfl, .bl c, "bool", "bool", rfl, .bl c, by decide, rfl, _, rfl, iteA (by decide) ?_⟩
    refine ⟨.bl b, rfl, .bl c, rfl, rfl, ?_⟩
    rw [dec_bl]
    exact q _ (same_upd ntp)
end
end Mx
end MxP13_
section MxP14_
set_option Elab.async false
set_option linter.all false
set_option maxRecDepth 100000
set_option maxHeartbeats 1000000
namespace Mx
open PySem PySem.Spec PyProof.Rows L2
def Asc (ds : List (Nat × Nat)) : Prop := ds.Pairwise fun d e => d.1 < e.1 ∨ (d.1 = e.1 ∧ d.2 < e.2)
def allD : List (Nat × Nat) := (List.range 6).flatMap fun a => (List.range 6).map fun b => (a, b)
theorem asc_len {n : Nat} {ds : List (Nat × Nat)} (hn : n ≤ 6) (h : ∀ d ∈ ds, d.1 < d.2 ∧ d.2 < n) (ha : Asc ds) : ds.length ≤ 28 := by
  have nd2 : ds.Nodup := ha.imp fun {a b} q e => by
    subst e
    omega
  have q := nodup_sub nd2 (m := allD.filter fun d => decide (d.1 < d.2)) fun d hd => List.mem_filter.mpr ⟨List.mem_flatMap.mpr ⟨d.1, List.mem_range.mpr (by have := h d hd; omega), List.mem_map.mpr ⟨d.2, List.mem_range.mpr (by have := h d hd; omega), rfl⟩⟩, decide_eq_true (h d hd).1⟩
  have e : (allD.filter fun d => decide (d.1 < d.2)).length = 15 := by decide
  omega
section
variable {X : Cx}
def rAddN : R2 := fun x y H Q => ∃ a b : Nat, x = nV a ∧ y = nV b ∧ Q (nV (a + b)) H
theorem op_addN : OpR X (binaryOp .Add) rAddN := by
  intro pins s σ H x y v u Q I rx ry h
  obtain ⟨a, b, rfl, rfl, q⟩ := h
  refine op_add pins s σ H _ _ v u Q I rx ry ⟨_, _, rfl, rfl, ?_⟩
  exact q
end
/-- the doors so far, behind H0: all before (i, j) -/
structure Doors (H : Hp) (dL : Addr) (n i j : Nat) : Prop where
  ex : ∃ ps : List (Addr × (Nat × Nat)), H dL = some (.lst (refs ps)) ∧ (∀ b ∈ ps, H b.1 = some (.tup (dV b.2))) ∧ (∀ d ∈ dat ps, d.1 < d.2 ∧ d.2 < n) ∧ Asc (dat ps) ∧ ∀ d ∈ dat ps, d.1 < i ∨ (d.1 = i ∧ d.2 < j)
theorem Doors.but {K : PySem.W.Frag} {H0 H H' : Hp} {rw sc dL : Addr} {ns : List Int} {n i j : Nat} (h : Doors H dL n i j) (r : RowAt K H0 H rw sc ns) (s : But rw H H') : Doors H' dL n i j := by
  obtain ⟨ps, h1, h2, h3⟩ := h.ex
  exact ⟨ps, s _ _ (r.neR h1) h1, fun b hb => s _ _ (r.neT (h2 b hb)) (h2 b hb), h3⟩
theorem Doors.skip {H : Hp} {dL : Addr} {n i j : Nat} (h : Doors H dL n i j) : Doors H dL n i (j + 1) := by
  obtain ⟨ps, h1, h2, h3, h4, h5⟩ := h.ex
  exact ⟨ps, h1, h2, h3, h4, fun d hd => by have := h5 d hd; omega⟩
theorem Doors.next {H : Hp} {dL : Addr} {n i j : Nat} (h : Doors H dL n i j) : Doors H dL n (i + 1) (i + 1 + 1 + 0) := by
  obtain ⟨ps, h1, h2, h3, h4, h5⟩ := h.ex
  exact ⟨ps, h1, h2, h3, h4, fun d hd => by have := h5 d hd; omega⟩
theorem Doors.add {H : Hp} {dL : Addr} {n i j : Nat} (h : Doors H dL n i j) (hn : n ≤ 6) (hi : i < j) (hj : j < n) {t : Addr} (nt : H t = none) :
    ∃ xs, upd H t (.tup [nV i, nV j]) dL = some (.lst xs) ∧ xs.length < sizeLine ∧ Doors (upd (upd H t (.tup [nV i, nV j])) dL (.lst (xs ++ [.ref t]))) dL n i (j + 1) := by
  obtain ⟨ps, h1, h2, h3, h4, h5⟩ := h.ex
  have ndt : dL ≠ t := ne_of_none h1 nt
  refine ⟨refs ps, (upd_ne ndt).trans h1, ?_, ps ++ [(t, (i, j))], ?_, fun b hb => ?_, fun d hd => ?_, ?_, fun d hd => ?_⟩
  · have q := asc_len hn h3 h4
    rw [List.length_map] at q
    rw [List.length_map]
    exact small1000 (by omega)
  · rw [upd_same, refs_snoc]
  · rcases List.mem_append.mp hb with z | z
    · have q := h2 b z
      rw [upd_ne (ne_of q h1 fun e => by cases e), upd_ne (ne_of_none q nt)]
      exact q
    · rw [List.mem_singleton.mp z, upd_ne ndt.symm, upd_same]
  · rw [dat_snoc] at hd
    rcases List.mem_append.mp hd with z | z
    · exact h3 d z
    · rw [List.mem_singleton.mp z]
      exact ⟨hi, hj⟩
  · rw [dat_snoc]
    refine List.pairwise_append.mpr ⟨h4, by simp, fun a ha b hb => ?_⟩
    rw [List.mem_singleton.mp hb]
    have := h5 a ha
    show a.1 < i ∨ (a.1 = i ∧ a.2 < j)
    omega
  · rw [dat_snoc] at hd
    rcases List.mem_append.mp hd with z | z
    · have := h5 d z
      omega
    · rw [List.mem_singleton.mp z]
      exact .inr ⟨rfl, Nat.lt_succ_self j⟩
theorem RowAt.upd {K : PySem.W.Frag} {H0 H : Hp} {rw sc a : Addr} {o : HO} {ns : List Int} (h : RowAt K H0 H rw sc ns) (n : a ≠ rw) (n0 : H0 a = none) : RowAt K H0 (upd H a o) rw sc ns := by
  obtain ⟨⟨i, j, k, e, b⟩, h2, h3, h4⟩ := h
  exact ⟨⟨i, j, k, (upd_ne n.symm).trans e, b⟩, h2, fun c o2 e2 => by
    rw [upd_ne (ne_of_none e2 n0)]
    exact h3 _ _ e2, h4⟩
section
variable {P : Program} {w : World} {K : PySem.W.Frag} {mg : Str → Option Value} {base : Heap}
def spHouse (K : PySem.W.Frag) : Sp := fun vs H Q _ => ∃ (H0 : Hp) (rw sc : Addr) (ns : List Int), vs = [.ref rw, nV 6] ∧ RowAt K H0 H rw sc ns ∧
  ∀ H' a n ds, But rw H H' → RowAt K H0 H' rw sc ns → HouseAt H' a n ds → Q (.ref a) H'
abbrev nHs : List Str := ["_law_row", "_law_most", "_law_size", "_law_part", "_law_doors", "_law_one", "_law_other"]
abbrev psHs : List Str := ["_law_row", "_law_most"]
theorem scHouse : FnScope nHs psHs (defScope sHouse) := ⟨rfl, rfl, rfl, by decide +kernel, rfl, by decide +kernel, by decide +kernel⟩
theorem ok_house (D : Df K mg "_law_house" sHouse psHs) (B : Blt mg) (C : Cal P w K mg base 1 "_law_taken" psTk (spTaken K)) : Cal P w K mg base 2 "_law_house" psHs (spHouse K) := by
  refine D.cal scHouse (fun vs H Q E h => ?_) (fun f cdv A outer s H vs Q E hr h => ?_)
  · obtain ⟨H0, rw, sc, ns, rfl, _⟩ := h
    rfl
  · obtain ⟨H0, rw, sc, ns, rfl, ra, q⟩ := h
    refine ⟨_, pss_cons (ps_set (i := 2) scHouse.nd rfl (.inl rfl) (pe_op op_addN pe_int (pe_cal C hr (by decide) (pa_cons (pv 0) (pa_cons (pv 1) pa_nil)))))
      (pss_cons (ps_par (i := 3) (j := 4) rfl scHouse.nd rfl rfl (by decide) rfl rfl (pa_cons (pe_op op_addN pe_int (pe_cal C hr (by decide) (pa_cons (pv 0) (pa_cons pe_int pa_nil)))) (pa_cons (pe_lst pa_nil) pa_nil)) rfl)
      (pss_cons (ps_for PassesOwn.never rfl (pi_range1 (by rfl) B.range (pa_cons (pv 2) pa_nil)) (pg_name (i := 5) scHouse.nd rfl (.inl rfl))
        (pss_one (ps_for PassesOwn.never rfl (pi_range2 (by rfl) B.range (pa_cons (pe_op op_addN (pv 5) pe_int) (pa_cons (pv 2) pa_nil))) (pg_name (i := 6) scHouse.nd rfl (.inl rfl))
          (pss_one (ps_if (pt_cmpR op_lt (pe_cal C hr (by decide) (pa_cons (pv 0) (pa_cons pe_int pa_nil))) (pv 3) (nomark _))
            (pss_one (ps_expr (pe_bm PySem.F.plainAttrs_list PySem.F.slot_list_append PySem.F.type_list_append mt_append (pv 4) (pa_cons (pe_tup (pa_cons (pv 5) (pa_cons (pv 6) pa_nil))) pa_nil)))) pss_nil)))))
      (pss_one (ps_ret (pe_tup (pa_cons (pv 2) (pa_cons (pe_callTy call_tuple_of (by rfl) B.tuple (by decide +kernel) (pa_cons (pv 4) pa_nil)) pa_nil))))))), ?_⟩
    refine ⟨.ref rw, rfl, nV 6, rfl, H0, rw, sc, ns, 6, rfl, ra, by decide, by decide, fun H1 m hm b1 ra1 => ?_⟩
    refine ⟨1, m, rfl, rfl, ?_⟩
    obtain ⟨n, hn⟩ : ∃ n, n = 1 + m := ⟨_, rfl⟩
    rw [← hn]
    have n1 : 1 ≤ n := by omega
    have n6 : n ≤ 6 := by omega
    refine ⟨.ref rw, rfl, H0, rw, sc, ns, 4, rfl, ra1, by decide, by decide, fun H2 pt hpt b2 ra2 => ?_⟩
    refine ⟨1, pt, rfl, rfl, ?_⟩
    refine ⟨by show 0 ≤ sizeLine; decide, fun dL nd => ⟨_, _, rfl, ?_⟩⟩
    have b12 := b1.trans b2
    have nd0 : H0 dL = none := ra2.sm.free nd
    obtain ⟨i0, j0, k0, er2, _⟩ := ra2.at_
    have ndr : dL ≠ rw := fun z => by
      rw [z, er2] at nd
      cases nd
    have ndH : ∀ o, H dL ≠ some o := fun o e => by
      rw [b12 _ _ ndr e] at nd
      cases nd
    have ra3 : RowAt K H0 (upd H2 dL (.lst [])) rw sc ns := ra2.upd ndr nd0
    have b3 : But rw H (upd H2 dL (.lst [])) := b12.trans (sBut (same_upd nd))
    refine ⟨nV n, rfl, n, rfl, by omega, by omega, for_range (lo := 0) (n := n)
      (fun i σ H' => ∃ (v5 v6 : Option V), σ = [some (.ref rw), some (nV 6), some (nV n), some (nV (1 + pt)), some (.ref dL), v5, v6] ∧ But rw H H' ∧ RowAt K H0 H' rw sc ns ∧ Doors H' dL n i (i + 1 + 0))
      ⟨none, none, rfl, b3, ra3, [], upd_same, (by intro b hb; cases hb), (by intro b hb; cases hb), List.Pairwise.nil, (by intro b hb; cases hb)⟩ ?_ ?_⟩
    · rintro i σ H3 hi ⟨v5, v6, rfl, b4, ra4, dr⟩
      have ei : V.int (0 + (i : Int)) = nV i := by rw [Int.zero_add]
      rw [ei]
      refine ⟨nV i, rfl, i, 1, rfl, rfl, nV n, rfl, _, _, rfl, ⟨by omega, by omega, by omega, by omega⟩, for_range (lo := ((i + 1 : Nat) : Int)) (n := ((n : Int) - ((i + 1 : Nat) : Int)).toNat)
        (fun j σ H' => ∃ (v6 : Option V), σ = [some (.ref rw), some (nV 6), some (nV n), some (nV (1 + pt)), some (.ref dL), some (nV i), v6] ∧ But rw H H' ∧ RowAt K H0 H' rw sc ns ∧ Doors H' dL n i (i + 1 + j)) ⟨v6, rfl, b4, ra4, dr⟩ ?_ ?_⟩
      · rintro j σ H4 hj ⟨v6, rfl, b5, ra5, dr5⟩
        have hjn : i + 1 + j < n := by omega
        have ej : V.int (((i + 1 : Nat) : Int) + (j : Int)) = nV (i + 1 + j) := rfl
        rw [ej]
        refine ⟨.ref rw, rfl, H0, rw, sc, ns, 5, rfl, ra5, by decide, by decide, fun H5 z hz b6 ra6 => ?_⟩
        have dr6 := dr5.but ra5 b6
        have b56 := b5.trans b6
        refine ⟨nV (1 + pt), rfl, _, _, rfl, rfl, _, rfl, ?_⟩
        refine ite2 (fun e1 => ?_) (fun e1 => ?_)
        · obtain ⟨ps, p1, _⟩ := dr6.ex
          refine ⟨.ref dL, rfl, .inl ⟨rfl, _, SqL.of p1⟩, nV i, rfl, nV (i + 1 + j), rfl, by show 2 ≤ sizeLine; decide, fun t nt => ?_⟩
          obtain ⟨xs, x1, x2, dr7⟩ := dr6.add n6 (by omega) hjn nt
          have ntr : RowAt K H0 (upd H5 t (.tup [nV i, nV (i + 1 + j)])) rw sc ns := ra6.same (same_upd nt)
          refine ⟨dL, xs, _, rfl, rfl, x1, x2, _, rfl, ?_, ntr.upd ndr nd0, dr7⟩
          intro b o nb e
          have nbd : b ≠ dL := fun z => ndH o (z ▸ e)
          rw [upd_ne nbd]
          exact (same_upd nt) _ _ (b56 _ _ nb e)
        · exact ⟨_, rfl, b56, ra6, dr6.skip⟩
      · rintro σ H4 ⟨v6, rfl, b5, ra5, dr5⟩
        exact ⟨_, _, rfl, b5, ra5, dr5.next⟩
    · rintro σ H3 ⟨v5, v6, rfl, b4, ra4, dr⟩
      obtain ⟨ps, p1, p2, p3, p4, p5⟩ := dr.ex
      refine ⟨nV n, rfl, .ref dL, rfl, dL, _, rfl, .inl ⟨SqL.of p1, fun t nt => ⟨by show 2 ≤ sizeLine; decide, fun u nu => ?_⟩⟩⟩
      have s1 := (same_upd nt (o := .tup (refs ps))).trans (same_upd nu (o := .tup [nV n, .ref t]))
      refine q _ u n (dat ps) (b4.trans (sBut s1)) (ra4.same s1) ⟨⟨t, ps, upd_same, (same_upd nu) _ _ upd_same, rfl, fun b hb => s1 _ _ (p2 b hb)⟩, n1, n6, p3, p4, asc_len n6 p3 p4⟩
end
end Mx
end MxP14_
section MxP15_
set_option Elab.async false
set_option linter.all false
set_option maxRecDepth 100000
set_option maxHeartbeats 1000000
namespace Mx
open PySem PySem.Spec PyProof.Rows L2
section
variable {X : Cx}
/-- t + u: some tuple of both -/
def rCatV : R2 := fun x y H Q => ∃ a b xs ys, x = .ref a ∧ y = .ref b ∧ H a = some (.tup xs) ∧ H b = some (.tup ys) ∧ xs.length + ys.length ≤ sizeLine ∧ ∀ p H', Same H H' → H' p = some (.tup (xs ++ ys)) → Q (.ref p) H'
theorem op_catV : OpR X (binaryOp .Add) rCatV := by
  intro pins s σ H x y v u Q I rx ry h
  obtain ⟨a, b, xs, ys, e1, e2, ha, hb, hz, q⟩ := h
  refine op_catA pins s σ H x y v u Q I rx ry ⟨a, b, xs, ys, e1, e2, SqT.of ha, SqT.of hb, hz, fun z => q b H (Same.refl _) ?_, fun _ z => q a H (Same.refl _) ?_, fun _ _ p np => q p _ (same_upd np) upd_same⟩
  · rw [z]
    exact hb
  · rw [z, List.append_nil]
    exact ha
/-- t[lo:hi]: some tuple of that part -/
def rSlV : V → Option Int → Option Int → Hp → VK → Prop := fun x lo hi H Q => ∃ a xs, x = .ref a ∧ H a = some (.tup xs) ∧ ∀ p H', Same H H' → H' p = some (.tup (cutV xs lo hi)) → Q (.ref p) H'
theorem sl_tupV : SlR X rSlV := by
  intro pins s σ H x v vl vu lo hi sl Q I rx hs pl pu h
  obtain ⟨a, xs, e, ha, q⟩ := h
  refine sl_tupA pins s σ H x v vl vu lo hi sl Q I rx hs pl pu ⟨a, xs, e, SqT.of ha, fun ⟨w1, w2⟩ => q a H (Same.refl _) ?_, fun _ p np => q p _ (same_upd np) upd_same⟩
  unfold cutV
  rw [w1, w2, List.drop_zero, Nat.sub_zero, List.take_length]
  exact ha
end
theorem cut_mem {xs : List V} {lo hi : Option Int} {x : V} (h : x ∈ cutV xs lo hi) : x ∈ xs := List.mem_of_mem_drop (List.mem_of_mem_take h)
def Vals10 (H : Hp) (rw : Addr) (vs : List V) : Prop := ∀ v ∈ vs, v ≠ .ref rw ∧ ∃ o, ValIs H v o
theorem Vals10.nil {H : Hp} {rw : Addr} : Vals10 H rw [] := fun v h => nomatch h
theorem Vals10.cons {H : Hp} {rw : Addr} {v : V} {vs : List V} (h : v ≠ .ref rw ∧ ∃ o, ValIs H v o) (t : Vals10 H rw vs) : Vals10 H rw (v :: vs) := fun x hx => (List.mem_cons.mp hx).elim (fun e => e ▸ h) (t x)
theorem Vals10.same {H H' : Hp} {rw : Addr} {vs : List V} (h : Vals10 H rw vs) (s : Same H H') : Vals10 H' rw vs := fun v hv => ⟨(h v hv).1, (h v hv).2.imp fun _ k => k.same s⟩
theorem Vals10.app {H : Hp} {rw : Addr} {vs us : List V} (h : Vals10 H rw vs) (k : Vals10 H rw us) : Vals10 H rw (vs ++ us) := fun v hv => (List.mem_append.mp hv).elim (h v) (k v)
theorem val_tup {K : PySem.W.Frag} {H0 H : Hp} {rw sc : Addr} {ns : List Int} (ra : RowAt K H0 H rw sc ns) {p : Addr} {xs : List V} (h : H p = some (.tup xs)) (ok : ∀ x ∈ xs, okD x = true) : V.ref p ≠ .ref rw ∧ ∃ o, ValIs H (.ref p) o :=
  ⟨fun z => ra.neT h (V.ref.inj z), _, .inr (.inr ⟨p, xs, rfl, h, ok, rfl⟩)⟩
theorem val_lst {K : PySem.W.Frag} {H0 H : Hp} {rw sc : Addr} {ns : List Int} (ra : RowAt K H0 H rw sc ns) {p : Addr} {xs : List Nat} (h : H p = some (.lst (xs.map nV))) : V.ref p ≠ .ref rw ∧ ∃ o, ValIs H (.ref p) o :=
  ⟨fun z => ra.neN h (V.ref.inj z), _, .inr (.inl ⟨p, _, rfl, h, rfl⟩)⟩
theorem val_non {H : Hp} {rw : Addr} : V.non ≠ .ref rw ∧ ∃ o, ValIs H .non o := ⟨(fun z => by cases z), none, .inl ⟨rfl, rfl⟩⟩
theorem val_found {K : PySem.W.Frag} {H0 H : Hp} {rw sc : Addr} {ns : List Int} (ra : RowAt K H0 H rw sc ns) {n : Nat} {adj : Adj} {r num : Nat} {v : V} (h : Found n adj r num H v) : v ≠ .ref rw ∧ ∃ o, ValIs H v o := by
  rcases h with ⟨rfl, _⟩ | ⟨t, s0, F, rfl, e2, _⟩
  · exact val_non
  · exact val_tup ra e2 wit_flat
theorem okD_rep {n : Nat} {x : V} (h : okD x = true) : ∀ y ∈ List.replicate n x, okD y = true := fun y hy => by
  rw [List.eq_of_mem_replicate hy]
  exact h
theorem inV_ints (z : Int) (ms : List Int) : inV (.int z) (ms.map V.int) = true ↔ z ∈ ms := by
  unfold inV
  rw [List.any_eq_true]
  constructor
  · rintro ⟨y, hy, e⟩
    obtain ⟨j, hj, rfl⟩ := List.mem_map.mp hy
    have e2 : (j == z) = true := e
    exact eq_of_beq e2 ▸ hj
  · intro h
    exact ⟨.int z, List.mem_map.mpr ⟨z, h, rfl⟩, by show (z == z) = true; exact beq_self_eq_true z⟩
theorem found_iff {n : Nat} {adj : Adj} {r num : Nat} {H : Hp} {v : V} {ms : List Int} (h : Found n adj r num H v) (hm : ∀ z : Int, z ∈ ms ↔ ∃ s, IsRest n adj s ∧ z = (s.getD r 0 : Nat)) :
    (!decide (V.bl (decide (v = .non)) = V.bl (!inV (nV num) (ms.map V.int)))) = false := by
  have key : decide (v = .non) = !inV (nV num) (ms.map V.int) := by
    rcases h with ⟨rfl, hno⟩ | ⟨t, s, F, rfl, _, hs, e, _⟩
    · have : ¬ inV (nV num) (ms.map V.int) = true := fun z => by
        obtain ⟨s, hs, e⟩ := (hm _).mp ((inV_ints _ _).mp z)
        exact hno s hs (by omega)
      rw [eq_false_of_ne_true this]
      rfl
    · have : inV (nV num) (ms.map V.int) = true := (inV_ints _ _).mpr ((hm _).mpr ⟨s, hs, by rw [e]⟩)
      rw [this]
      exact decide_eq_false fun z => by cases z
  rw [key, decide_eq_true rfl]
  rfl
theorem flat_ints (ms : List Int) : (ms.map V.int).all flatV = true := by
  rw [List.all_eq_true]
  intro x hx
  obtain ⟨j, _, rfl⟩ := List.mem_map.mp hx
  rfl
theorem Found.but {K : PySem.W.Frag} {H0 H H' : Hp} {rw sc : Addr} {ns : List Int} {n : Nat} {adj : Adj} {r num : Nat} {v : V} (h : Found n adj r num H v) (ra : RowAt K H0 H rw sc ns) (s : But rw H H') : Found n adj r num H' v := by
  rcases h with h | ⟨t, s0, F, e1, e2, h⟩
  · exact .inl h
  · exact .inr ⟨t, s0, F, e1, s _ _ (ra.neT e2) e2, h⟩
theorem Vals10.but {K : PySem.W.Frag} {H0 H H' : Hp} {rw sc : Addr} {ns : List Int} {vs : List V} (h : Vals10 H rw vs) (ra : RowAt K H0 H rw sc ns) (s : But rw H H') : Vals10 H' rw vs := fun v hv => by
  obtain ⟨nv, o, k⟩ := h v hv
  refine ⟨nv, o, ?_⟩
  rcases k with k | ⟨a, xs, h1, h2, h3⟩ | ⟨a, xs, h1, h2, h3⟩
  · exact .inl k
  · exact .inr (.inl ⟨a, xs, h1, s _ _ (fun z => nv (by rw [h1, z])) h2, h3⟩)
  · exact .inr (.inr ⟨a, xs, h1, s _ _ (ra.neT h2) h2, h3⟩)
section
variable {P : Program} {w : World} {K : PySem.W.Frag} {mg : Str → Option Value} {base : Heap}
def spLaw (K : PySem.W.Frag) : Sp := fun vs H Q _ => ∃ (a : Addr) (ns : List Int), vs = [.ref a] ∧ SqL K H a (ns.map V.int) ∧ ns.length ≤ 63 ∧ ∀ H', Q (.bl true) H'
abbrev nLaw : List Str := ["_law_script", "_law_row", "_law_house_here", "_law_rows", "_law_room", "_law_number", "_law_found", "_law_rest", "_law_values", "_law_value", "_law_many", "_law_size", "_law_turn", "_law_part"]
theorem scLaw : FnScope nLaw ["_law_script"] (defScope sLaw) := ⟨rfl, rfl, rfl, by decide +kernel, rfl, by decide +kernel, by decide +kernel⟩
set_option maxHeartbeats 4000000 in
theorem ok_law {f : Addr} {fd : FuncData} (F : Fun K "law" "law" sLaw f fd) (B : Blt mg) (CT : Cal P w K mg base 1 "_law_taken" psTk (spTaken K)) (CP : Cal P w K mg base 2 "_law_pick" psPk (spPick K)) (CA : Cal P w K mg base 1 "_law_alike" psAk spAlike)
    (CH : Cal P w K mg base 2 "_law_house" psHs (spHouse K)) (CN : Cal P w K mg base 1 "_law_near" ["_law_house_here"] spNear) (CF : Cal P w K mg base 1 "_law_fits" psFit spJudge)
    (CW : Cal P w K mg base 12 "witness" ["house", "room", "number"] spWitness) (CS : Cal P w K mg base 12 "shown_in" ["house", "room"] spShownIn) (CR : Cal P w K mg base 12 "rests" ["house"] spAllRests)
    (CX : Cal P w K mg base 5 "shows_number" ["house", "room", "number", "value"] spShows) : FnOk P w K mg base CX0 13 f fd ["_law_script"] (spLaw K) := by
  refine F.ok scLaw (fun vs H Q E h => ?_) (fun cdv A outer s0 H vs Q E hr h => ?_)
  · obtain ⟨a, ns, rfl, _⟩ := h
    rfl
  · obtain ⟨sc, ns, rfl, hsq, _, q⟩ := h
    refine ⟨_, pss_cons (ps_set (i := 1) scLaw.nd rfl (.inr rfl) (pe_lst (pa_cons (pv 0) (pa_cons pe_int (pa_cons pe_int (pa_cons pe_int pa_nil))))))
      (pss_cons (ps_set (i := 2) scLaw.nd rfl (.inl rfl) (pe_cal CH hr (by decide) (pa_cons (pv 1) (pa_cons pe_int pa_nil))))
      (pss_cons (ps_par3 (i := 3) (j := 4) (l := 5) rfl scLaw.nd rfl rfl rfl (by decide) (by decide) (by decide) rfl rfl rfl (pa_cons (pe_cal CN hr (by decide) (pa_cons (pv 2) pa_nil)) (pa_cons (pe_cal CT hr (by decide) (pa_cons (pv 1) (pa_cons (pe_ix ix_tup (pv 2) pe_int (fun _ _ => rfl)) pa_nil))) (pa_cons (pe_cal CT hr (by decide) (pa_cons (pv 1) (pa_cons pe_int pa_nil))) pa_nil))) rfl)
      (pss_cons (ps_set (i := 6) scLaw.nd rfl (.inl rfl) (pe_cal CW hr (by decide) (pa_cons (pv 2) (pa_cons (pv 4) (pa_cons (pv 5) pa_nil)))))
      (pss_cons (ps_if (pt_cmpR op_ne (pe_cmpR op_isN (pv 6) pe_non (nomark _)) (pe_cmpR op_notIn_seq (pv 5) (pe_cal CS hr (by decide) (pa_cons (pv 2) (pa_cons (pv 4) pa_nil))) rfl) (nomark _)) (pss_one (ps_ret pe_bl)) pss_nil)
      (pss_cons (ps_set (i := 7) scLaw.nd rfl (.inl rfl) (pe_cal CP hr (by decide) (pa_cons (pv 1) (pa_cons (pe_cal CR hr (by decide) (pa_cons (pv 2) pa_nil)) pa_nil))))
      (pss_cons (ps_set (i := 8) scLaw.nd rfl (.inl rfl) (pe_lst (pa_cons (pv 6) (pa_cons (pv 7) (pa_cons pe_non (pa_cons (pe_callTy call_list_of (by rfl) B.list (by decide +kernel) (pa_cons (pv 7) pa_nil))
        (pa_cons (pe_slice sl_tupV (pv 7) (po_some pe_int) po_none) (pa_cons (pe_op op_mulT (pe_tup (pa_cons pe_non pa_nil)) (pe_ix ix_tup (pv 2) pe_int (fun _ _ => rfl)))
        (pa_cons (pe_op op_catV (pe_op op_catV (pe_slice sl_tupV (pv 7) po_none (po_some (pv 4))) (pe_tup (pa_cons (pv 5) pa_nil))) (pe_slice sl_tupV (pv 7) (po_some (pe_op op_addN (pv 4) pe_int)) po_none)) pa_nil)))))))))
      (pss_cons (ps_set (i := 8) scLaw.nd rfl (.inl rfl) (pe_op op_cat (pv 8) (pe_lst (pa_cons (pe_callTy call_tuple_of (by rfl) B.tuple (by decide +kernel) (pa_cons
          (pe_lc (own := [("_law_part", 13)]) (g := gName 13) (tt := tYes) rfl scLaw.nd (pi_tup (pv 7)) (blkOk_by (N := nLaw) (sc := defScope sLaw) (by decide +kernel)) (fun _ _ _ _ _ => pg_name (i := 13) scLaw.nd rfl (.inl rfl)) (fun _ _ _ _ _ => pts_nil)
            (fun _ _ _ _ _ => pe_ifExp (pt_cmpR op_gt (pe_cal CT hr (by decide) (pa_cons (pv 1) (pa_cons pe_int pa_nil))) pe_int (nomark _)) (pv 13) pe_non)) pa_nil))
        (pa_cons (pe_op op_mulT (pe_tup (pa_cons pe_str pa_nil)) (pe_ix ix_tup (pv 2) pe_int (fun _ _ => rfl))) (pa_cons (pe_op op_mulT (pe_tup (pa_cons pe_bl pa_nil)) (pe_ix ix_tup (pv 2) pe_int (fun _ _ => rfl))) pa_nil))))))
      (pss_cons (ps_for PassesOwn.never rfl (pi_list (pv 8)) (pg_name (i := 9) scLaw.nd rfl (.inl rfl))
        (pss_one (ps_if (pt_not (pt_val (pe_cal CA hr (by decide) (pa_cons (pe_cal CX hr (by decide) (pa_cons (pv 2) (pa_cons (pv 4) (pa_cons (pv 5) (pa_cons (pv 9) pa_nil))))) (pa_cons (pe_cal CF hr (by decide) (pa_cons (pv 3) (pa_cons (pv 9) (pa_cons (pv 4) (pa_cons (pv 5) pa_nil))))) pa_nil))))) (pss_one (ps_ret pe_bl)) pss_nil)))
      (pss_cons (ps_if (pt_cmpR op_isN (pv 6) pe_non (nomark _)) (pss_one (ps_ret pe_bl)) pss_nil)
      (pss_cons (ps_set (i := 10) scLaw.nd rfl (.inl rfl) (pe_callB call_len_seq (by rfl) B.len PySem.boot_len (pa_cons (pe_lc (own := [("_law_part", 13)]) (g := gName 13) rfl scLaw.nd (pi_tup (pv 6)) (blkOk_by (N := nLaw) (sc := defScope sLaw) (by decide +kernel))
        (fun _ _ _ _ _ => pg_name (i := 13) scLaw.nd rfl (.inl rfl)) (fun _ _ _ _ _ => pts_one (pt_cmpR op_notN (pv 13) pe_non (nomark _))) (fun _ _ _ _ _ => pv 13)) pa_nil)))
      (pss_cons (ps_set (i := 11) scLaw.nd rfl (.inl rfl) pe_int)
      (pss_cons (ps_for PassesOwn.never rfl (pi_range1 (by rfl) B.range (pa_cons (pv 5) pa_nil)) (pg_name (i := 12) scLaw.nd rfl (.inl rfl)) (pss_one (ps_set (i := 11) scLaw.nd rfl (.inl rfl) (pe_op op_mul pe_int (pv 11)))))
      (pss_one (ps_ret (pe_and (pe_cal CF hr (by decide) (pa_cons (pv 3) (pa_cons (pv 6) (pa_cons (pv 4) (pa_cons (pv 5) pa_nil))))) (pe_one (pe_cmpR op_le (pv 10) (pv 11) (nomark _)))))))))))))))))), ?_⟩
    -- the row
    refine ⟨.ref sc, rfl, by show 4 ≤ sizeLine; decide, fun rw nr => ?_⟩
    have ra1 : RowAt K H (upd H rw (.lst [.ref sc, .int 0, .int 6037, .int 0])) rw sc ns := ⟨⟨0, 6037, 0, upd_same, by decide, by decide⟩, nr, same_upd nr, hsq⟩
    generalize upd H rw (.lst [.ref sc, .int 0, .int 6037, .int 0]) = H1 at ra1 ⊢
    -- the house
    refine ⟨.ref rw, rfl, H, rw, sc, ns, rfl, ra1, fun H2 a n ds b2 ra2 hh => ?_⟩
    have n1 := hh.ok.pos
    have n6 := hh.ok.le
    have G := hh.ok.gr
    have atH : ∀ {H' : Hp}, HouseAt H' a n ds → ∃ d, H' a = some (.tup [nV n, .ref d]) := fun h => by
      obtain ⟨d, ps, h1, _⟩ := h.ex
      exact ⟨d, h1⟩
    -- its rows, a room, a number
    refine ⟨.ref a, rfl, a, n, ds, rfl, hh, fun H3 p s3 np hp3 => ?_⟩
    have hh3 := hh.same s3
    have ra3 := ra2.same s3
    obtain ⟨d3, e3⟩ := atH hh3
    refine ⟨.ref rw, rfl, .ref a, rfl, a, _, 0, nV n, rfl, rfl, SqT.of e3, atI_nat (j := 0) rfl, H, rw, sc, ns, n, rfl, ra3, n1, by omega, fun H4 r hrn b4 ra4 => ?_⟩
    refine ⟨.ref rw, rfl, H, rw, sc, ns, 4, rfl, ra4, by decide, by decide, fun H5 num hnum b5 ra5 => ⟨_, _, _, rfl, ?_⟩⟩
    have hh5 := (hh3.but ra3 b4).but ra4 b5
    have hp5 := (hp3.butR ra3 b4).butR ra4 b5
    -- the witness
    refine ⟨.ref a, rfl, nV r, rfl, nV num, rfl, a, n, ds, r, num, rfl, hh5, hrn, by omega, fun H6 v s6 fd6 => ?_⟩
    have hh6 := hh5.same s6
    -- just one if a rest shows it
    refine ⟨v, rfl, rfl, nV num, rfl, .ref a, rfl, nV r, rfl, a, n, ds, r, rfl, hh6, hrn, fun H7 t7 ms s7 ht7 hm7 => ?_⟩
    refine ⟨t7, _, rfl, .inr (SqT.of ht7), rfl, flat_ints ms, rfl, _, rfl, iteB (found_iff fd6 hm7) ?_⟩
    have s67 := s6.trans s7
    have hh7 := hh6.same s7
    -- a rest
    refine ⟨.ref rw, rfl, .ref a, rfl, a, n, ds, rfl, hh7, fun H8 l bs s8 hl8 hbs8 hm8 hlen => ?_⟩
    have ra8 := (ra5.same s67).same s8
    have hne : bs ≠ [] := fun z => by
      obtain ⟨s, hs⟩ := rest_some n (adjOf ds)
      have q1 := (hm8 s).mpr hs
      rw [z] at q1
      cases q1
    refine ⟨H, rw, sc, l, ns, bs, rfl, ra8, hl8, hne, hlen, fun H9 b hb b9 ra9 => ?_⟩
    have hb8 := hbs8 b hb
    have hb9 := b9 _ _ (ra8.neT hb8) hb8
    have rest := ((hm8 b.2).mp (List.mem_map.mpr ⟨b, hb, rfl⟩)).rest G
    have hh9 := (hh7.same s8).but ra8 b9
    have hp9 := ((hp5.same s67).same s8).butR ra8 b9
    have fd9 := ((fd6.same s7).same s8).but ra8 b9
    have okb : ∀ x ∈ b.2.map nV, okD x = true := okD_nats b.2
    have lb : (b.2.map nV).length = n := by rw [List.length_map]; exact rest.len
    clear b2 ra1 ra2 b4 ra4 b5 ra5 hh hh3 hh5 hh6 hp3 hp5 fd6 hbs8 hl8
    -- seven values
    refine ⟨v, rfl, .ref b.1, rfl, .ref b.1, rfl, b.1, _, rfl, .inr (SqT.of hb9), fun l1 nl1 => ?_⟩
    have t1 : Same H9 (upd H9 l1 (.lst (b.2.map nV))) := same_upd nl1
    have q1 : (upd H9 l1 (.lst (b.2.map nV))) l1 = some (.lst (b.2.map nV)) := upd_same
    generalize upd H9 l1 (.lst (b.2.map nV)) = H10 at t1 q1 ⊢
    refine ⟨.ref b.1, rfl, 1, rfl, b.1, _, rfl, t1 _ _ hb9, fun p2 H11 t2 hp2 => ?_⟩
    have t12 := t1.trans t2
    refine ⟨by show 1 ≤ sizeLine; decide, fun k3 nk3 => ?_⟩
    have t3 : Same H11 (upd H11 k3 (.tup [.non])) := same_upd nk3
    have q3 : (upd H11 k3 (.tup [.non])) k3 = some (.tup [.non]) := upd_same
    generalize upd H11 k3 (.tup [.non]) = H12 at t3 q3 ⊢
    have t13 := t12.trans t3
    obtain ⟨d9, e9⟩ := atH hh9
    refine ⟨.ref a, rfl, a, _, 0, nV n, rfl, rfl, SqT.of (t13 _ _ e9), atI_nat (j := 0) rfl, k3, n, .non, rfl, rfl, q3, n1, by omega, fun p3 H13 t4 hp4 => ?_⟩
    have t14 := t13.trans t4
    refine ⟨.ref b.1, rfl, nV r, rfl, _, rfl, b.1, _, rfl, t14 _ _ hb9, fun p5 H14 t5 hp5 => ?_⟩
    have t15 := t14.trans t5
    refine ⟨nV num, rfl, by show 1 ≤ sizeLine; decide, fun k6 nk6 => ?_⟩
    have t6 : Same H14 (upd H14 k6 (.tup [nV num])) := same_upd nk6
    have q6 : (upd H14 k6 (.tup [nV num])) k6 = some (.tup [nV num]) := upd_same
    generalize upd H14 k6 (.tup [nV num]) = H15 at t6 q6 ⊢
    have t16 := t15.trans t6
    have c1 := cutV_length (b.2.map nV) none (some (r : Int))
    have c2 := cutV_length (b.2.map nV) (some ((r + 1 : Nat) : Int)) none
    refine ⟨p5, k6, _, _, rfl, rfl, t6 _ _ hp5, q6, (by rw [List.length_singleton]; exact Nat.le_of_lt (small1000 (by omega))), fun p7 H16 t7 hp7 => ?_⟩
    have t17 := t16.trans t7
    refine ⟨.ref b.1, rfl, nV r, rfl, r, 1, rfl, rfl, _, rfl, b.1, _, rfl, t17 _ _ hb9, fun p8 H17 t8 hp8 => ?_⟩
    have t18 := t17.trans t8
    refine ⟨p7, p8, _, _, rfl, rfl, t8 _ _ hp7, hp8, (by rw [List.length_append, List.length_singleton]; exact Nat.le_of_lt (small1000 (by omega))), fun p9 H18 t9 hp9' => ?_⟩
    have t19 := t18.trans t9
    refine ⟨by show 7 ≤ sizeLine; decide, fun L nL => ?_⟩
    have ra18 := ra9.same t19
    have v7 : Vals10 H18 rw [v, .ref b.1, .non, .ref l1, .ref p2, .ref p3, .ref p9] := by
      have u8 := t8.trans t9
      have u4 := t5.trans (t6.trans (t7.trans u8))
      have u2 := t3.trans ((show Same H12 H13 from t4).trans u4)
      refine .cons (val_found ra18 (fd9.same t19)) (.cons (val_tup ra18 (t19 _ _ hb9) okb) (.cons val_non (.cons (val_lst ra18 ((t2.trans u2) _ _ q1)) (.cons (val_tup ra18 (u2 _ _ hp2) fun x hx => okb x (cut_mem hx))
        (.cons (val_tup ra18 (u4 _ _ hp4) (okD_rep rfl)) (.cons (val_tup ra18 hp9' fun x hx => ?_) .nil))))))
      rcases List.mem_append.mp hx with z | z
      · rcases List.mem_append.mp z with z | z
        · exact okb x (cut_mem z)
        · rw [List.mem_singleton.mp z]
          rfl
      · exact okb x (cut_mem z)
    have nLr : L ≠ rw := fun z => by
      obtain ⟨i0, j0, k0, er, _⟩ := ra18.at_
      rw [z, er] at nL
      cases nL
    have w1 : Same H18 (upd H18 L (.lst [v, .ref b.1, .non, .ref l1, .ref p2, .ref p3, .ref p9])) := same_upd nL
    have hL : (upd H18 L (.lst [v, .ref b.1, .non, .ref l1, .ref p2, .ref p3, .ref p9])) L = some (.lst [v, .ref b.1, .non, .ref l1, .ref p2, .ref p3, .ref p9]) := upd_same
    generalize upd H18 L (.lst [v, .ref b.1, .non, .ref l1, .ref p2, .ref p3, .ref p9]) = H19 at w1 hL ⊢
    have x19 := t19.trans w1
    have ra19 := ra9.same x19
    have v19 := v7.same w1
    have hh19 := hh9.same x19
    have hp19 := hp9.same x19
    have fd19 := fd9.same x19
    have hb19 := x19 _ _ hb9
    have e19 := x19 _ _ e9
    clear t1 t2 t3 t4 t5 t6 t7 t8 t9 t12 t13 t14 t15 t16 t17 t18 t19 q1 q3 q6 hp2 hp4 hp5 hp7 hp8 hp9' c1 c2 nk3 nk6 nl1 nL v7 w1 x19 hh9 hp9 fd9 hb9 e9 ra9 ra18 ra8 hb8 ht7 hh7 b9 s67
    -- three more
    refine ⟨.ref L, rfl, .ref b.1, rfl, b.1, rfl, ⟨_, SqT.of hb19⟩, fun M nM => ?_⟩
    have nMr : M ≠ rw := fun z => by
      obtain ⟨i0, j0, k0, er, _⟩ := ra19.at_
      rw [z, er] at nM
      cases nM
    refine lc_tup (K := K) (a := b.1) (xs := b.2.map nV) (fun j H' => ∃ acc : List V, But rw H19 H' ∧ RowAt K H H' rw sc ns ∧ H' M = some (.lst acc) ∧ acc.length = j ∧ ∀ x ∈ acc, okD x = true)
      ⟨[], sBut (same_upd nM), ra19.same (same_upd nM), upd_same, rfl, (by intro x hx; cases hx)⟩ (fun j H' _ ⟨_, bb, _⟩ => SqT.of (bb _ _ (ra19.neT hb19) hb19)) ?_ ?_
    · rintro j y H20 hy ⟨acc, bb, ra20, hM, la, oka⟩
      obtain ⟨k, hk, rfl⟩ := map_at hy
      have hj := ix_lt hy
      rw [lb] at hj
      refine ⟨rfl, .ref rw, rfl, H, rw, sc, ns, 3, rfl, ra20, by decide, by decide, fun H21 z hz b21 ra21 => ?_⟩
      have done : ∀ x : V, okD x = true → ∃ acc, H21 M = some (.lst acc) ∧ acc.length < sizeLine ∧ ∃ acc2 : List V, But rw H19 (upd H21 M (.lst (acc ++ [x]))) ∧ RowAt K H (upd H21 M (.lst (acc ++ [x]))) rw sc ns ∧ (upd H21 M (.lst (acc ++ [x]))) M = some (.lst acc2) ∧ acc2.length = j + 1 ∧ ∀ x ∈ acc2, okD x = true := fun x okx =>
        ⟨acc, b21 _ _ nMr hM, small1000 (by omega), acc ++ [x], fun b0 o nb e => by
          rw [upd_ne (ne_of_none e nM)]
          exact b21 _ _ nb (bb _ _ nb e), ra21.upd nMr (ra19.sm.free nM), upd_same, by rw [List.length_append, la]; rfl, fun x1 hx1 => (List.mem_append.mp hx1).elim (oka x1) fun e => by rw [List.mem_singleton.mp e]; exact okx⟩
      refine ⟨_, _, rfl, rfl, _, rfl, ?_⟩
      refine ite2 (fun e1 => ?_) (fun e1 => ?_)
      · exact ⟨nV k, rfl, done _ rfl⟩
      · exact done _ rfl
    · rintro H20 ⟨acc, bb, ra20, hM, la, oka⟩
      rw [lb] at la
      have v20 := v19.but ra19 bb
      have hh20 := hh19.but ra19 bb
      have hp20 := hp19.butR ra19 bb
      have fd20 := fd19.but ra19 bb
      have e20 := bb _ _ (ra19.neT e19) e19
      have hL20 := bb _ _ nLr hL
      clear v19 hh19 hp19 fd19 e19 hL bb hb19 ra19 nM
      refine ⟨M, acc, rfl, .inl ⟨SqL.of hM, fun t9 nt9 => ?_⟩⟩
      have y1 : Same H20 (upd H20 t9 (.tup acc)) := same_upd nt9
      have g1 : (upd H20 t9 (.tup acc)) t9 = some (.tup acc) := upd_same
      generalize upd H20 t9 (.tup acc) = H21 at y1 g1 ⊢
      refine ⟨by show 1 ≤ sizeLine; decide, fun k2 nk2 => ?_⟩
      have y2 := same_upd nk2 (o := .tup [.str (Str.ofString "0")])
      have y12 := y1.trans y2
      refine ⟨.ref a, rfl, a, _, 0, nV n, rfl, rfl, SqT.of (y12 _ _ e20), atI_nat (j := 0) rfl, k2, n, _, rfl, rfl, upd_same, n1, by omega, fun p10 H23 y3 hp10 => ?_⟩
      have y13 := y12.trans (show Same _ H23 from y3)
      refine ⟨by show 1 ≤ sizeLine; decide, fun k4 nk4 => ?_⟩
      have y4 := same_upd nk4 (o := .tup [.bl true])
      have y14 := y13.trans y4
      refine ⟨.ref a, rfl, a, _, 0, nV n, rfl, rfl, SqT.of (y14 _ _ e20), atI_nat (j := 0) rfl, k4, n, _, rfl, rfl, upd_same, n1, by omega, fun p11 H25 y5 hp11 => ?_⟩
      have y15 := y14.trans (show Same _ H25 from y5)
      refine ⟨by show 3 ≤ sizeLine; decide, fun L2 nL2 => ?_⟩
      have y6 := same_upd nL2 (o := .lst [.ref t9, .ref p10, .ref p11])
      have y16 := y15.trans y6
      refine ⟨L, L2, _, _, rfl, rfl, y16 _ _ hL20, upd_same, by show 10 ≤ sizeLine; decide, fun L3 nL3 => ?_⟩
      have y7 := same_upd nL3 (o := .lst ([v, .ref b.1, .non, .ref l1, .ref p2, .ref p3, .ref p9] ++ [.ref t9, .ref p10, .ref p11]))
      have y17 := y16.trans y7
      have hL3 : (upd (upd H25 L2 (.lst [.ref t9, .ref p10, .ref p11])) L3 (.lst ([v, .ref b.1, .non, .ref l1, .ref p2, .ref p3, .ref p9] ++ [.ref t9, .ref p10, .ref p11]))) L3 = some (.lst ([v, .ref b.1, .non, .ref l1, .ref p2, .ref p3, .ref p9] ++ [.ref t9, .ref p10, .ref p11])) := upd_same
      have raf := ra20.same y17
      have v10 := (v20.same y17).app (.cons (val_tup raf (y7 _ _ (y6 _ _ (y5 _ _ (y4 _ _ (y3 _ _ (y2 _ _ g1)))))) oka) (.cons (val_tup raf (y7 _ _ (y6 _ _ (y5 _ _ (y4 _ _ hp10)))) (okD_rep (by decide +kernel))) (.cons (val_tup raf (y7 _ _ (y6 _ _ hp11)) (okD_rep rfl)) .nil)))
      have hhf := hh20.same y17
      have hpf := hp20.same y17
      have fdf := fd20.same y17
      generalize [v, .ref b.1, .non, .ref l1, .ref p2, .ref p3, .ref p9] ++ [.ref t9, .ref p10, .ref p11] = vals at hL3 v10 hhf hpf fdf y7 y17 raf ⊢
      generalize upd (upd H25 L2 (.lst [.ref t9, .ref p10, .ref p11])) L3 (.lst vals) = Hf at *
      -- each judged twice
      refine ⟨.ref L3, rfl, L3, rfl, ⟨_, SqL.of hL3⟩, for_list (K := K) (a := L3) (xs := vals)
        (fun i σ H' => ∃ v9, σ = [some (.ref sc), some (.ref rw), some (.ref a), some (.ref p), some (nV r), some (nV num), some v, some (.ref b.1), some (.ref L3), v9, none, none, none, none] ∧ Same Hf H')
        ⟨none, rfl, Same.refl _⟩ (fun i σ H' _ ⟨_, _, sm⟩ => SqL.of (sm _ _ hL3)) ?_ ?_⟩
      · rintro i x σ H' hx ⟨v9, rfl, sm⟩
        obtain ⟨_, o, ho⟩ := v10 x (List.mem_of_getElem? hx)
        refine ⟨.ref a, rfl, nV r, rfl, nV num, rfl, x, rfl, a, x, r, num, n, ds, o, rfl, hhf.same sm, hrn, by omega, by omega, ho.same sm, fun J1 b1 s1 i1 => ?_⟩
        refine ⟨.ref p, rfl, x, rfl, nV r, rfl, nV num, rfl, p, x, r, num, n, adjOf ds, o, rfl, (hpf.same sm).same s1, G, n6, hrn, (ho.same sm).same s1, fun J2 c1 s2 i2 => ?_⟩
        have e : b1 = c1 := by rw [Bool.eq_iff_iff, i1, i2]
        subst e
        exact ⟨b1, b1, rfl, fun J3 s3 => ⟨_, rfl, iteNT (beq_self_eq_true b1) ⟨_, rfl, sm.trans (s1.trans (s2.trans s3))⟩⟩⟩
      · rintro σ H' ⟨v9, rfl, sm⟩
        refine ⟨v, rfl, rfl, _, rfl, ?_⟩
        rcases fdf.same sm with ⟨rfl, _⟩ | ⟨t, s, F', rfl, ht, hs, es, need⟩
        · exact iteA (decide_eq_true rfl) (q _)
        · refine iteB (decide_eq_false fun z => by cases z) ?_
          refine ⟨.ref t, rfl, t, rfl, ⟨_, SqT.of ht⟩, fun M2 nM2 => lc_tup (K := K) (a := t) (xs := wit n s F') (PM H' M2 fun j => (((wit n s F').take j).filter fun y => !decide (y = .non)).map id) (PM.start nM2) (fun j H'' _ h => SqT.of (h.1 _ _ ht)) ?_ ?_⟩
          · rintro j y J1 hy pm
            have hj := ix_lt hy
            rw [wit_len] at hj
            have nx : (((wit n s F').take (j + 1)).filter fun y => !decide (y = .non)).map id = (((wit n s F').take j).filter fun y => !decide (y = .non)).map id ++ (if (!decide (y = .non)) = true then [id y] else []) := by
              rw [take_at hy]
              exact fil_snoc (fun y => !decide (y = .non)) id _ y
            refine ⟨rfl, y, rfl, rfl, _, rfl, ?_⟩
            refine ite2 (fun e1 => ?_) (fun e1 => ?_)
            · rw [if_pos e1] at nx
              refine ⟨y, rfl, pm.step nM2 (Same.refl _) nx ?_⟩
              rw [List.length_map]
              have q1 := List.length_filter_le (fun y : V => !decide (y = .non)) ((wit n s F').take j)
              rw [List.length_take] at q1
              exact small1000 (by omega)
            · rw [if_neg e1, List.append_nil] at nx
              exact pm.skip (Same.refl _) nx
          · rintro J1 pm
            have pm3 := pm.fin (l := (wit n s F').filter fun y => !decide (y = .non)) (by rw [List.take_length, List.map_id])
            have many : ((wit n s F').filter fun y => !decide (y = .non)).length ≤ 2 ^ num := by
              have q1 := wit_many (n := n) (s := s) (F := F')
              have q2 := need.many
              rw [es] at q2
              omega
            have smJ := sm.trans pm.1
            have htJ := pm.1 _ _ ht
            generalize ((wit n s F').filter fun y => !decide (y = .non)) = ws at pm3 many
            refine ⟨M2, ws, rfl, .inl (SqL.of pm3), ?_⟩
            refine ⟨nV num, rfl, num, rfl, by omega, by omega, for_range (lo := 0) (n := num)
              (fun i σ H'' => ∃ (z : Int) (v12 : Option V), σ = [some (.ref sc), some (.ref rw), some (.ref a), some (.ref p), some (nV r), some (nV num), some (.ref t), some (.ref b.1), some (.ref L3), v9, some (nV ws.length), some (.int z), v12, none] ∧ H'' = J1 ∧ z = ((2 ^ i : Nat) : Int))
              ⟨1, none, rfl, rfl, rfl⟩ ?_ ?_⟩
            · rintro i σ J2 hi ⟨z, v12, rfl, rfl, ez⟩
              refine ⟨.int z, rfl, 2, z, rfl, rfl, .inl ⟨by decide, by decide⟩, 2 * z, _, rfl, rfl, ?_⟩
              rw [ez, Nat.pow_succ]
              omega
            · rintro σ J2 ⟨z, v12, rfl, rfl, ez⟩
              refine ⟨.ref p, rfl, .ref t, rfl, nV r, rfl, nV num, rfl, p, .ref t, r, num, n, adjOf ds, some (wit n s F'), rfl, hpf.same smJ, G, n6, hrn, .inr (.inr ⟨t, _, rfl, htJ, wit_flat, rfl⟩), fun J3 b1 s5 i5 => ?_⟩
              have hb1 : b1 = true := i5.mpr ⟨_, rfl, by
                have q1 := wit_fits G n6 (hs.rest G) need
                rw [es] at q1
                exact q1⟩
              subst hb1
              refine ⟨true, rfl, nV ws.length, rfl, .int z, rfl, _, _, rfl, rfl, ?_⟩
              show Q (.bl (decide ((ws.length : Int) ≤ z))) J3
              rw [decide_eq_true (by omega)]
              exact q _
end
end Mx
end MxP15_
section MxH_
set_option Elab.async false
set_option linter.all false
set_option maxRecDepth 100000
set_option maxHeartbeats 4000000
/-! what the top has written; the law's own head -/
namespace Mx
open PySem PySem.Spec PyProof.Rows L2
/-- a def at f, as the top leaves it -/
def At (K : PySem.W.Frag) (x : Str) (st : Stmt) (f : Addr) : Prop := ∃ (oc : Value) (od an : Option Addr) (sl : Array (Option Value)) (kV dc pm cd ct : Value),
  K.lookup f = some ⟨oc, od, .func (PySem.W.fnOf x x (defArgs st) (defBody st) (defScope st) .none kV dc pm an cd ct), sl⟩ ∧ PySem.W.codeIn K cd x = true
theorem at_mk {K : PySem.W.Frag} {x : Str} {st : Stmt} {f : Addr} {oc : Value} {od an : Option Addr} {sl : Array (Option Value)} {kV dc pm cd ct : Value}
    (l : K.lookup f = some ⟨oc, od, .func (PySem.W.fnOf x x (defArgs st) (defBody st) (defScope st) .none kV dc pm an cd ct), sl⟩) (c : PySem.W.codeIn K cd x = true) : At K x st f := ⟨oc, od, an, sl, kV, dc, pm, cd, ct, l, c⟩
theorem df_mk {K : PySem.W.Frag} {h : Heap} {mg : Str → Option Value} {x : Str} {st : Stmt} {ps : List Str} {f : Addr} (X : K.In h) (G : h.Ns mainGlobals mg) (a : PySem.W.nsIn K mainGlobals x = some (some (.ref f))) (l : At K x st f) (k : PySem.W.keepIn K (.ref f) = true)
    (hb : ∀ (kV doc pm : Value) (an : Option Addr) (cdv ct : Value) (us : List Value), us.length = ps.length → bindArgs (PySem.W.fnOf x x (defArgs st) (defBody st) (defScope st) .none kV doc pm an cdv ct) ⟨us, []⟩ = pure (ps.zip us)) : Df K mg x st ps := by
  obtain ⟨oc, od, an, sl, kV, dc, pm, cd, ct, l1, c1⟩ := l
  have F := fun_mk (st := st) l1 c1 k
  exact ⟨f, _, F, PySem.W.mg_of X G a, F.binds hb⟩
theorem all_mk {l : PySem.W.OpenLaw} {w : World} {K : PySem.W.Frag} {h : Heap} {mg : Str → Option Value} {fa : Addr} (X : K.In h) (G : h.Ns mainGlobals mg) (hfa : mg "law" = some (.ref fa))
    {fIsInteger fIsIn fIsList fNeedDoors fNeedHouse fNeedRoom fNear fLargestIn fIsLargest fLay fStateOf fAllRests fRests fShownIn fIsWitness fShows fNeeded fWitness fTaken fPick fAlike fHouse fLNear fFits fLaw : Addr} {tm : Tok}
    (aIsInteger : PySem.W.nsIn K mainGlobals "is_integer" = some (some (.ref fIsInteger))) (lIsInteger : At K "is_integer" sIsInteger fIsInteger) (kIsInteger : PySem.W.keepIn K (.ref fIsInteger) = true)
    (aIsIn : PySem.W.nsIn K mainGlobals "is_in" = some (some (.ref fIsIn))) (lIsIn : At K "is_in" sIsIn fIsIn) (kIsIn : PySem.W.keepIn K (.ref fIsIn) = true)
    (aIsList : PySem.W.nsIn K mainGlobals "is_list" = some (some (.ref fIsList))) (lIsList : At K "is_list" sIsList fIsList) (kIsList : PySem.W.keepIn K (.ref fIsList) = true)
    (aNeedDoors : PySem.W.nsIn K mainGlobals "need_doors" = some (some (.ref fNeedDoors))) (lNeedDoors : At K "need_doors" sNeedDoors fNeedDoors) (kNeedDoors : PySem.W.keepIn K (.ref fNeedDoors) = true)
    (aNeedHouse : PySem.W.nsIn K mainGlobals "need_house" = some (some (.ref fNeedHouse))) (lNeedHouse : At K "need_house" sNeedHouse fNeedHouse) (kNeedHouse : PySem.W.keepIn K (.ref fNeedHouse) = true)
    (aNeedRoom : PySem.W.nsIn K mainGlobals "need_room" = some (some (.ref fNeedRoom))) (lNeedRoom : At K "need_room" sNeedRoom fNeedRoom) (kNeedRoom : PySem.W.keepIn K (.ref fNeedRoom) = true)
    (aNear : PySem.W.nsIn K mainGlobals "near" = some (some (.ref fNear))) (lNear : At K "near" sNear fNear) (kNear : PySem.W.keepIn K (.ref fNear) = true)
    (aLargestIn : PySem.W.nsIn K mainGlobals "largest_in" = some (some (.ref fLargestIn))) (lLargestIn : At K "largest_in" sLargestIn fLargestIn) (kLargestIn : PySem.W.keepIn K (.ref fLargestIn) = true)
    (aIsLargest : PySem.W.nsIn K mainGlobals "is_largest" = some (some (.ref fIsLargest))) (lIsLargest : At K "is_largest" sIsLargest fIsLargest) (kIsLargest : PySem.W.keepIn K (.ref fIsLargest) = true)
    (aLay : PySem.W.nsIn K mainGlobals "layers_from" = some (some (.ref fLay))) (lLay : At K "layers_from" sLayersFrom fLay) (kLay : PySem.W.keepIn K (.ref fLay) = true)
    (aStateOf : PySem.W.nsIn K mainGlobals "state_of" = some (some (.ref fStateOf))) (lStateOf : At K "state_of" sStateOf fStateOf) (kStateOf : PySem.W.keepIn K (.ref fStateOf) = true)
    (aAllRests : PySem.W.nsIn K mainGlobals "all_rests" = some (some (.ref fAllRests))) (lAllRests : At K "all_rests" sAllRests fAllRests) (kAllRests : PySem.W.keepIn K (.ref fAllRests) = true)
    (aRests : PySem.W.nsIn K mainGlobals "rests" = some (some (.ref fRests))) (lRests : At K "rests" sRests fRests) (kRests : PySem.W.keepIn K (.ref fRests) = true)
    (aShownIn : PySem.W.nsIn K mainGlobals "shown_in" = some (some (.ref fShownIn))) (lShownIn : At K "shown_in" sShownIn fShownIn) (kShownIn : PySem.W.keepIn K (.ref fShownIn) = true)
    (aIsWitness : PySem.W.nsIn K mainGlobals "is_witness" = some (some (.ref fIsWitness))) (lIsWitness : At K "is_witness" sIsWitness fIsWitness) (kIsWitness : PySem.W.keepIn K (.ref fIsWitness) = true)
    (aShows : PySem.W.nsIn K mainGlobals "shows_number" = some (some (.ref fShows))) (lShows : At K "shows_number" sShowsNumber fShows) (kShows : PySem.W.keepIn K (.ref fShows) = true)
    (aNeeded : PySem.W.nsIn K mainGlobals "needed_by" = some (some (.ref fNeeded))) (lNeeded : At K "needed_by" sNeededBy fNeeded) (kNeeded : PySem.W.keepIn K (.ref fNeeded) = true)
    (aWitness : PySem.W.nsIn K mainGlobals "witness" = some (some (.ref fWitness))) (lWitness : At K "witness" sWitness fWitness) (kWitness : PySem.W.keepIn K (.ref fWitness) = true)
    (aTaken : PySem.W.nsIn K mainGlobals "_law_taken" = some (some (.ref fTaken))) (lTaken : At K "_law_taken" sTaken fTaken) (kTaken : PySem.W.keepIn K (.ref fTaken) = true)
    (aPick : PySem.W.nsIn K mainGlobals "_law_pick" = some (some (.ref fPick))) (lPick : At K "_law_pick" sPick fPick) (kPick : PySem.W.keepIn K (.ref fPick) = true)
    (aAlike : PySem.W.nsIn K mainGlobals "_law_alike" = some (some (.ref fAlike))) (lAlike : At K "_law_alike" sAlike fAlike) (kAlike : PySem.W.keepIn K (.ref fAlike) = true)
    (aHouse : PySem.W.nsIn K mainGlobals "_law_house" = some (some (.ref fHouse))) (lHouse : At K "_law_house" sHouse fHouse) (kHouse : PySem.W.keepIn K (.ref fHouse) = true)
    (aLNear : PySem.W.nsIn K mainGlobals "_law_near" = some (some (.ref fLNear))) (lLNear : At K "_law_near" sLNear fLNear) (kLNear : PySem.W.keepIn K (.ref fLNear) = true)
    (aFits : PySem.W.nsIn K mainGlobals "_law_fits" = some (some (.ref fFits))) (lFits : At K "_law_fits" sFits fFits) (kFits : PySem.W.keepIn K (.ref fFits) = true)
    (aLaw : PySem.W.nsIn K mainGlobals "law" = some (some (.ref fLaw))) (lLaw : At K "law" sLaw fLaw) (kLaw : PySem.W.keepIn K (.ref fLaw) = true)
    (z_isinstance : PySem.W.nsIn K mainGlobals "isinstance" = some none)
    (z_int : PySem.W.nsIn K mainGlobals "int" = some none)
    (z_bool : PySem.W.nsIn K mainGlobals "bool" = some none)
    (z_str : PySem.W.nsIn K mainGlobals "str" = some none)
    (z_tuple : PySem.W.nsIn K mainGlobals "tuple" = some none)
    (z_list : PySem.W.nsIn K mainGlobals "list" = some none)
    (z_set : PySem.W.nsIn K mainGlobals "set" = some none)
    (z_len : PySem.W.nsIn K mainGlobals "len" = some none)
    (z_all : PySem.W.nsIn K mainGlobals "all" = some none)
    (z_any : PySem.W.nsIn K mainGlobals "any" = some none)
    (z_range : PySem.W.nsIn K mainGlobals "range" = some none)
    (z_enumerate : PySem.W.nsIn K mainGlobals "enumerate" = some none)
    (z_sorted : PySem.W.nsIn K mainGlobals "sorted" = some none)
    (mm : PySem.W.nsIn K mainGlobals "MOST_ROOMS" = some (some (.int 8 tm))) :
    ∃ fd : FuncData, (∀ (s : Shared) (v : Value), BindsTo s fd ⟨[v], []⟩ [("_law_script", v)]) ∧ ∀ base : Heap, K.In base → base.Ns mainGlobals mg → FnOk l.prog w K mg base CX0 13 fa fd ["_law_script"] (spLaw K) := by
  have e := hfa.symm.trans (PySem.W.mg_of X G aLaw)
  cases e
  have B : Blt mg := ⟨PySem.W.mg_none_of X G z_isinstance, PySem.W.mg_none_of X G z_int, PySem.W.mg_none_of X G z_bool, PySem.W.mg_none_of X G z_str, PySem.W.mg_none_of X G z_tuple, PySem.W.mg_none_of X G z_list, PySem.W.mg_none_of X G z_set, PySem.W.mg_none_of X G z_len, PySem.W.mg_none_of X G z_all, PySem.W.mg_none_of X G z_any, PySem.W.mg_none_of X G z_range, PySem.W.mg_none_of X G z_enumerate, PySem.W.mg_none_of X G z_sorted, tm, PySem.W.mg_of X G mm⟩
  have DIsInteger : Df K mg "is_integer" sIsInteger ["value"] := df_mk X G aIsInteger lIsInteger kIsInteger fun _ _ _ _ _ _ us hl => match us, hl with | [_], _ => rfl
  have DIsIn : Df K mg "is_in" sIsIn ["value", "least", "most"] := df_mk X G aIsIn lIsIn kIsIn fun _ _ _ _ _ _ us hl => match us, hl with | [_, _, _], _ => rfl
  have DIsList : Df K mg "is_list" sIsList ["value", "least", "most"] := df_mk X G aIsList lIsList kIsList fun _ _ _ _ _ _ us hl => match us, hl with | [_, _, _], _ => rfl
  have DNeedDoors : Df K mg "need_doors" sNeedDoors ["size", "doors"] := df_mk X G aNeedDoors lNeedDoors kNeedDoors fun _ _ _ _ _ _ us hl => match us, hl with | [_, _], _ => rfl
  have DNeedHouse : Df K mg "need_house" sNeedHouse ["house"] := df_mk X G aNeedHouse lNeedHouse kNeedHouse fun _ _ _ _ _ _ us hl => match us, hl with | [_], _ => rfl
  have DNeedRoom : Df K mg "need_room" sNeedRoom ["house", "room"] := df_mk X G aNeedRoom lNeedRoom kNeedRoom fun _ _ _ _ _ _ us hl => match us, hl with | [_, _], _ => rfl
  have DNear : Df K mg "near" sNear ["house"] := df_mk X G aNear lNear kNear fun _ _ _ _ _ _ us hl => match us, hl with | [_], _ => rfl
  have DLargestIn : Df K mg "largest_in" sLargestIn ["rows", "rooms"] := df_mk X G aLargestIn lLargestIn kLargestIn fun _ _ _ _ _ _ us hl => match us, hl with | [_, _], _ => rfl
  have DIsLargest : Df K mg "is_largest" sIsLargest ["rows", "rooms", "some"] := df_mk X G aIsLargest lIsLargest kIsLargest fun _ _ _ _ _ _ us hl => match us, hl with | [_, _, _], _ => rfl
  have DLay : Df K mg "layers_from" sLayersFrom psLay := df_mk X G aLay lLay kLay fun _ _ _ _ _ _ us hl => match us, hl with | [_, _, _], _ => rfl
  have DStateOf : Df K mg "state_of" sStateOf ["size", "layers"] := df_mk X G aStateOf lStateOf kStateOf fun _ _ _ _ _ _ us hl => match us, hl with | [_, _], _ => rfl
  have DAllRests : Df K mg "all_rests" sAllRests ["house"] := df_mk X G aAllRests lAllRests kAllRests fun _ _ _ _ _ _ us hl => match us, hl with | [_], _ => rfl
  have DRests : Df K mg "rests" sRests ["house"] := df_mk X G aRests lRests kRests fun _ _ _ _ _ _ us hl => match us, hl with | [_], _ => rfl
  have DShownIn : Df K mg "shown_in" sShownIn ["house", "room"] := df_mk X G aShownIn lShownIn kShownIn fun _ _ _ _ _ _ us hl => match us, hl with | [_, _], _ => rfl
  have DIsWitness : Df K mg "is_witness" sIsWitness psWit := df_mk X G aIsWitness lIsWitness kIsWitness fun _ _ _ _ _ _ us hl => match us, hl with | [_, _, _, _], _ => rfl
  have DShows : Df K mg "shows_number" sShowsNumber ["house", "room", "number", "value"] := df_mk X G aShows lShows kShows fun _ _ _ _ _ _ us hl => match us, hl with | [_, _, _, _], _ => rfl
  have DNeeded : Df K mg "needed_by" sNeededBy ["rows", "rest", "room"] := df_mk X G aNeeded lNeeded kNeeded fun _ _ _ _ _ _ us hl => match us, hl with | [_, _, _], _ => rfl
  have DWitness : Df K mg "witness" sWitness ["house", "room", "number"] := df_mk X G aWitness lWitness kWitness fun _ _ _ _ _ _ us hl => match us, hl with | [_, _, _], _ => rfl
  have DTaken : Df K mg "_law_taken" sTaken psTk := df_mk X G aTaken lTaken kTaken fun _ _ _ _ _ _ us hl => match us, hl with | [_, _], _ => rfl
  have DPick : Df K mg "_law_pick" sPick psPk := df_mk X G aPick lPick kPick fun _ _ _ _ _ _ us hl => match us, hl with | [_, _], _ => rfl
  have DAlike : Df K mg "_law_alike" sAlike psAk := df_mk X G aAlike lAlike kAlike fun _ _ _ _ _ _ us hl => match us, hl with | [_, _], _ => rfl
  have DHouse : Df K mg "_law_house" sHouse psHs := df_mk X G aHouse lHouse kHouse fun _ _ _ _ _ _ us hl => match us, hl with | [_, _], _ => rfl
  have DLNear : Df K mg "_law_near" sLNear ["_law_house_here"] := df_mk X G aLNear lLNear kLNear fun _ _ _ _ _ _ us hl => match us, hl with | [_], _ => rfl
  have DFits : Df K mg "_law_fits" sFits psFit := df_mk X G aFits lFits kFits fun _ _ _ _ _ _ us hl => match us, hl with | [_, _, _, _], _ => rfl
  obtain ⟨oc, od, an, sl, kV, dc, pm, cd, ct, l1, c1⟩ := lLaw
  have F := fun_mk (st := sLaw) l1 c1 kLaw
  refine ⟨PySem.W.fnOf "law" "law" (defArgs sLaw) (defBody sLaw) (defScope sLaw) .none kV dc pm an cd ct, fun s v => .of_eq rfl, fun base _ _ => ?_⟩
  have c1 := ok_isInteger (P := l.prog) (w := w) (base := base) DIsInteger B
  have c2 := ok_isIn DIsIn c1
  have c3 := ok_isList (P := l.prog) (w := w) (base := base) DIsList B
  have c4 := ok_needDoors DNeedDoors B c3 c2
  have c5 := ok_needHouse DNeedHouse B c3 c2 c4
  have c6 := ok_needRoom DNeedRoom c2
  have c7 := ok_near (P := l.prog) (w := w) (base := base) DNear B
  have c8 := ok_isLargest (P := l.prog) (w := w) (base := base) DIsLargest B
  have c9 := ok_largestIn DLargestIn B c8
  have c10 := ok_lay DLay B c9 7
  have c11 := ok_stateOf (P := l.prog) (w := w) (base := base) DStateOf B
  have c12 := ok_allRests DAllRests B c7 c11 c10
  have c13 := ok_rests DRests c5 c12
  have c14 := ok_shownIn DShownIn B c5 c6 c12
  have c15 := ok_isWitness DIsWitness B c3 c2
  have c16 := ok_showsNumber DShows c5 c6 c2 c7 c15
  have c17 := ok_needed (P := l.prog) (w := w) (base := base) DNeeded B
  have c18 := ok_witness DWitness B c5 c6 c2 c7 c12 c17
  have c19 := ok_taken (P := l.prog) (w := w) (base := base) DTaken B
  have c20 := ok_pick DPick B c19
  have c21 := ok_alike (P := l.prog) (w := w) (base := base) DAlike B
  have c22 := ok_house DHouse B c19
  have c23 := ok_lnear (P := l.prog) (w := w) (base := base) DLNear B
  have c24 := ok_fits (P := l.prog) (w := w) (base := base) DFits B
  exact ok_law F B c19 c20 c21 c22 c23 c24 c18 c14 c13 c16
end Mx
end MxH_
set_option Elab.async false
set_option linter.all false
set_option maxRecDepth 100000
open PySem PySem.W PyProof.Rows
set_option maxHeartbeats 0 in
theorem PySem.Challenge.cw_mexrooms_k37_whole_witnesses_holds : PySem.Challenge.rw_mexrooms_k37_whole_witnesses.Holds := by
  w_on; o_law; k_head; (case hw => w_witness2)
  k_fill
  refine L2.walk_of (l := PySem.Challenge.rw_mexrooms_k37_whole_witnesses) (n := 63) (k := 13) (x := "_law_script") (CX := fun _ => L2.CX0) (sp := fun w => Mx.spLaw _) rfl (by decide) rfl ⟨rfl, by decide, by decide⟩ (fun w h Y => PySem.W.kIn_of Y) ?F (fun _ _ a ns hl _ hS => ⟨a, ns, rfl, hS, hl, fun _ => rfl⟩) (fun _ _ _ _ _ h => h)
  case F =>
    intro w mg fa h KX G hmg
    refine' Mx.all_mk KX G hmg ?aIsInteger ?lIsInteger ?kIsInteger ?aIsIn ?lIsIn ?kIsIn ?aIsList ?lIsList ?kIsList ?aNeedDoors ?lNeedDoors ?kNeedDoors ?aNeedHouse ?lNeedHouse ?kNeedHouse ?aNeedRoom ?lNeedRoom ?kNeedRoom ?aNear ?lNear ?kNear ?aLargestIn ?lLargestIn ?kLargestIn ?aIsLargest ?lIsLargest ?kIsLargest ?aLay ?lLay ?kLay ?aStateOf ?lStateOf ?kStateOf ?aAllRests ?lAllRests ?kAllRests ?aRests ?lRests ?kRests ?aShownIn ?lShownIn ?kShownIn ?aIsWitness ?lIsWitness ?kIsWitness ?aShows ?lShows ?kShows ?aNeeded ?lNeeded ?kNeeded ?aWitness ?lWitness ?kWitness ?aTaken ?lTaken ?kTaken ?aPick ?lPick ?kPick ?aAlike ?lAlike ?kAlike ?aHouse ?lHouse ?kHouse ?aLNear ?lLNear ?kLNear ?aFits ?lFits ?kFits ?aLaw ?lLaw ?kLaw ?z_isinstance ?z_int ?z_bool ?z_str ?z_tuple ?z_list ?z_set ?z_len ?z_all ?z_any ?z_range ?z_enumerate ?z_sorted ?mm
    (case aIsInteger => k_is); (case lIsInteger => refine' Mx.at_mk ?l ?c; (case l => k_is); (case c => k_is)); (case kIsInteger => k_is)
    (case aIsIn => k_is); (case lIsIn => refine' Mx.at_mk ?l ?c; (case l => k_is); (case c => k_is)); (case kIsIn => k_is)
    (case aIsList => k_is); (case lIsList => refine' Mx.at_mk ?l ?c; (case l => k_is); (case c => k_is)); (case kIsList => k_is)
    (case aNeedDoors => k_is); (case lNeedDoors => refine' Mx.at_mk ?l ?c; (case l => k_is); (case c => k_is)); (case kNeedDoors => k_is)
    (case aNeedHouse => k_is); (case lNeedHouse => refine' Mx.at_mk ?l ?c; (case l => k_is); (case c => k_is)); (case kNeedHouse => k_is)
    (case aNeedRoom => k_is); (case lNeedRoom => refine' Mx.at_mk ?l ?c; (case l => k_is); (case c => k_is)); (case kNeedRoom => k_is)
    (case aNear => k_is); (case lNear => refine' Mx.at_mk ?l ?c; (case l => k_is); (case c => k_is)); (case kNear => k_is)
    (case aLargestIn => k_is); (case lLargestIn => refine' Mx.at_mk ?l ?c; (case l => k_is); (case c => k_is)); (case kLargestIn => k_is)
    (case aIsLargest => k_is); (case lIsLargest => refine' Mx.at_mk ?l ?c; (case l => k_is); (case c => k_is)); (case kIsLargest => k_is)
    (case aLay => k_is); (case lLay => refine' Mx.at_mk ?l ?c; (case l => k_is); (case c => k_is)); (case kLay => k_is)
    (case aStateOf => k_is); (case lStateOf => refine' Mx.at_mk ?l ?c; (case l => k_is); (case c => k_is)); (case kStateOf => k_is)
    (case aAllRests => k_is); (case lAllRests => refine' Mx.at_mk ?l ?c; (case l => k_is); (case c => k_is)); (case kAllRests => k_is)
    (case aRests => k_is); (case lRests => refine' Mx.at_mk ?l ?c; (case l => k_is); (case c => k_is)); (case kRests => k_is)
    (case aShownIn => k_is); (case lShownIn => refine' Mx.at_mk ?l ?c; (case l => k_is); (case c => k_is)); (case kShownIn => k_is)
    (case aIsWitness => k_is); (case lIsWitness => refine' Mx.at_mk ?l ?c; (case l => k_is); (case c => k_is)); (case kIsWitness => k_is)
    (case aShows => k_is); (case lShows => refine' Mx.at_mk ?l ?c; (case l => k_is); (case c => k_is)); (case kShows => k_is)
    (case aNeeded => k_is); (case lNeeded => refine' Mx.at_mk ?l ?c; (case l => k_is); (case c => k_is)); (case kNeeded => k_is)
    (case aWitness => k_is); (case lWitness => refine' Mx.at_mk ?l ?c; (case l => k_is); (case c => k_is)); (case kWitness => k_is)
    (case aTaken => k_is); (case lTaken => refine' Mx.at_mk ?l ?c; (case l => k_is); (case c => k_is)); (case kTaken => k_is)
    (case aPick => k_is); (case lPick => refine' Mx.at_mk ?l ?c; (case l => k_is); (case c => k_is)); (case kPick => k_is)
    (case aAlike => k_is); (case lAlike => refine' Mx.at_mk ?l ?c; (case l => k_is); (case c => k_is)); (case kAlike => k_is)
    (case aHouse => k_is); (case lHouse => refine' Mx.at_mk ?l ?c; (case l => k_is); (case c => k_is)); (case kHouse => k_is)
    (case aLNear => k_is); (case lLNear => refine' Mx.at_mk ?l ?c; (case l => k_is); (case c => k_is)); (case kLNear => k_is)
    (case aFits => k_is); (case lFits => refine' Mx.at_mk ?l ?c; (case l => k_is); (case c => k_is)); (case kFits => k_is)
    (case aLaw => k_is); (case lLaw => refine' Mx.at_mk ?l ?c; (case l => k_is); (case c => k_is)); (case kLaw => k_is)
    (case z_isinstance => k_is)
    (case z_int => k_is)
    (case z_bool => k_is)
    (case z_str => k_is)
    (case z_tuple => k_is)
    (case z_list => k_is)
    (case z_set => k_is)
    (case z_len => k_is)
    (case z_all => k_is)
    (case z_any => k_is)
    (case z_range => k_is)
    (case z_enumerate => k_is)
    (case z_sorted => k_is)
    (case mm => k_is)
