import PyProof.Rows.All
import Wide.All
import OpenK.AllK
import Wide.FinOn
import HandS.ForMost
import HandS.Walk
import HandS.Evl
import HandS.TupLe
import HandS.TupSets
import HandS.Zip
import HandS.Conv
import HandS.Style
import HandS.IsInst
import HandS.Deep
import HandS.StrMore
import HandS.DictComp
import HandS.Small
import HandS.Flow
import KE.KDictKeyed
import KE.KDictWalk
import KE.KDictDisplayH
import KE.KDictCopyH
import KE.KDictSum
import KE.KeyNested
import KE.GoesNew
import KE.GoesDict
import KE.DataMinMax
import PyProof.ListIndex
import PyProof.EnumMake
import PyProof.SumAny
import PyProof.DictUpdate
import PySem.Challenge.RW_chumwords_k46_whole_walks
set_option Elab.async false
set_option linter.all false
set_option maxRecDepth 100000
set_option maxHeartbeats 4000000
/-! Rules of my own over the layer: a chain of three comparisons, xs[i] op= e, enumerate of a tuple, least of texts, sorted of a dict's tuple keys. -/
namespace Kw
open PySem PySem.Spec PyProof.Rows L2

section
variable {X : Cx} {a b c d : Expr} {ta tb tc td : TE} {pos : Pos}
/-- a op b op' c op'' d -/
def tChain3 (r r' r'' : R2) (ta tb tc td : TE) : TE := fun σ H Q => ta σ H fun x H1 => tb σ H1 fun y H2 => r x y H2 fun z H3 => ∃ k, z = .bl k ∧
  (if k = true then tc σ H3 fun u H4 => r' y u H4 fun z' H5 => ∃ k', z' = .bl k' ∧ (if k' = true then td σ H5 fun u' H6 => r'' u u' H6 Q else Q (.bl false) H5) else Q (.bl false) H3)
theorem pe_chain3 {op op' op'' : CmpOp} {r r' r'' : R2} (h1 : OpR X (compareOp op) r) (h2 : OpR X (compareOp op') r') (h3 : OpR X (compareOp op'') r'') (ha : PE X a ta) (hb : PE X b tb) (hc : PE X c tc) (hd : PE X d td)
    (hm : lastMarks [op, op', op''] [b, c, d] = false := by with_unfolding_all rfl) : PE X (.Compare a [op, op', op''] [b, c, d] pos) (tChain3 r r' r'' ta tb tc td) := by
  constructor
  intro pins s σ H Q I h
  apply Compare_chain (hm := hm)
  refine thn (ha.run pins s σ H _ I h) ?_
  rintro v s1 ⟨x, H1, I1, r1, q1⟩
  apply chain_link
  refine thn (hb.run pins s1 σ H1 _ I1 q1) ?_
  rintro u s2 ⟨y, H2, I2, r2, q2⟩
  refine thn (h1 pins s2 σ H2 x y v u _ I2 r1 r2 q2) ?_
  rintro _ s3 ⟨z, H3, I3, r3, k, rfl, q3⟩
  obtain rfl := r3
  apply wpAny_truthy_bool
  cases k with
  | false => exact ite_ff ⟨.bl false, H3, I3, rfl, q3⟩
  | true =>
    apply ite_tt
    apply chain_link
    refine thn (hc.run pins s3 σ H3 _ I3 q3) ?_
    rintro u4 s4 ⟨x4, H4, I4, r4, q4⟩
    refine thn (h2 pins s4 σ H4 y x4 u u4 _ I4 r2 r4 q4) ?_
    rintro _ s5 ⟨z5, H5, I5, r5, k5, rfl, q5⟩
    obtain rfl := r5
    apply wpAny_truthy_bool
    cases k5 with
    | false => exact ite_ff ⟨.bl false, H5, I5, rfl, q5⟩
    | true =>
      apply ite_tt
      apply chain_last
      refine thn (hd.run pins s5 σ H5 _ I5 q5) ?_
      rintro u6 s6 ⟨x6, H6, I6, r6, q6⟩
      exact h3 pins s6 σ H6 x4 x6 u4 u6 Q I6 r4 r6 q6
/-- l[i], by values, of a tracked list at a place from the begin -/
def gtL : V → V → Hp → VK → Prop := fun o i H Q => ∃ p xs j v, o = .ref p ∧ i = .int ((j : Nat) : Int) ∧ H p = some (.lst xs) ∧ xs[j]? = some v ∧ Q v H
theorem get_list : PGet X gtL := by
  intro pins s σ H o i ov iv Q I ro ri h
  obtain ⟨p, xs, j, v, rfl, rfl, hp, hv, q⟩ := h
  obtain rfl := ro
  obtain ⟨t, rfl⟩ := ri
  obtain ⟨its, r, pl, hz⟩ := I.list (SqL.of hp)
  obtain ⟨u, hu, ru⟩ := r.get hv
  have hn := line63
  have hl := r.length
  have hj := (List.getElem?_eq_some_iff.mp hv).1
  exact wpAny_getItem_list pl.isList (by omega) (by omega) (by simpa using hu) ⟨v, H, I, ru, q⟩
end

/-! ### enumerate(t), t a tuple -/
theorem enum1_new {v : Value} {o : Obj} {Hh : Heap → Prop} (B : Begins v o Hh) :
    Meets (Builtin.«enumerate.__new__» ⟨[.type "enumerate", v], []⟩) (fun _ R s => Hh s.heap ∧ R (.ok (.ret (.ref (s.heap.push o).objs.size)))
        { s with heap := (s.heap.push o).push { cls := .type "enumerate", data := .fields #[.none, .bool false, .ref s.heap.objs.size, rawInt 0, .none, .none] } }) := by
  refine .of_wp fun prog w A R s hh => ?_
  obtain ⟨h1, h2⟩ := hh
  obtain ⟨hp, g, d, tk, os⟩ := s
  have hsub := sub_enumerate
  have it1 : ∀ {A' : Around} {E : Value → Shared → Prop} {Q : Value → Shared → Prop}, Q (.ref hp.objs.size) ⟨hp.push o, g, d, tk, os⟩ → wpAny (model prog w) A' (pyIter v) Q E ⟨hp, g, d, tk, os⟩ := fun q => B.iter prog w _ _ _ _ h1 q
  wp_walk using it1
  refine wpAny_stack_any fun st => wpAny_pure ?_
  split
  · rename_i c _ _ _ _ _
    cases (c == Value.type "enumerate") <;> (wp_walk using it1; exact ⟨_, rfl, h2⟩)
  · wp_walk using it1
    exact ⟨_, rfl, h2⟩
theorem enum1_begins {prog : Program} {w : World} {A : Around} {E : Value → Shared → Prop} {s : Shared} {v : Value} {o : Obj} {Hh : Heap → Prop} {Q : Value → Shared → Prop} (B : Begins v o Hh) (h1 : Hh s.heap)
    (h : ∀ h', IsEnum h' (s.heap.objs.size + 1) s.heap.objs.size 0 .none → h'.get? s.heap.objs.size = some o → (∀ b u, s.heap.get? b = some u → h'.get? b = some u) → Q (.ref (s.heap.objs.size + 1)) { s with heap := h' }) :
    wpAny (model prog w) A (call (.type "enumerate") [v]) Q E s := by
  have z : (s.heap.push o).objs.size = s.heap.objs.size + 1 := Heap.size_push ..
  have en : IsEnum ((s.heap.push o).push { cls := .type "enumerate", data := .fields #[.none, .bool false, .ref s.heap.objs.size, rawInt 0, .none, .none] }) (s.heap.objs.size + 1) s.heap.objs.size 0 .none := by
    have q := Heap.get?_push_size (s.heap.push o) (o := { cls := .type "enumerate", data := .fields #[.none, .bool false, .ref s.heap.objs.size, rawInt 0, .none, .none] }) rfl
    rwa [z] at q
  refine callType_new F.called_enumerate (by decide) (F.typeCall_enumerate_1 _) (F.newCall_enumerate_1 _) (fun obj => F.args_object_init_2 obj _) F.entry_enumerate_new (enum1_new B) ⟨h1, ?_⟩
  show _ ∧ _
  rw [z]
  exact ⟨⟨_, en, rfl⟩, h _ en (Heap.get?_push_of_some _ (Heap.get?_push_size _ B.free)) fun b u q => Heap.get?_push_of_some _ (Heap.get?_push_of_some _ q)⟩
/-- each item of the tuple at a, in a new pair with its place -/
def ItT (K : PySem.W.Frag) (a : Addr) : It where
  go := fun i H => ∃ (xs : List V) (x : V), SqT K H a xs ∧ xs[i]? = some x
  yld := fun i H v H' => ∃ T x, v = .ref T ∧ H T = none ∧ H' = upd H T (.tup [.int (i : Nat), x]) ∧ ∀ xs, SqT K H a xs → xs[i]? = some x
  stop := fun i H => ∃ xs : List V, SqT K H a xs ∧ xs.length = i
theorem turn_enumT {P : Program} {w : World} {K : PySem.W.Frag} {elts : List Expr} {kk : Nat} {tpos : Pos} (a e it : Addr) :
    Turn P w K (.Tuple elts kk tpos) (ItT K a) [e, it] e (fun i h => (∃ old, IsEnum h e it ((0 : Int) + (i : Int)) old) ∧ h.IsTupleIter it a i ∧ e ≠ it ∧ a ≠ it ∧ a ≠ e) where
  mem := List.mem_cons_self
  obj := by
    rintro i h ⟨⟨old, he⟩, ⟨o, ho, hc, hd⟩, _⟩ b hb
    rcases List.mem_cons.mp hb with rfl | hb
    · exact ⟨_, he, fun v q => nomatch q⟩
    · obtain rfl := List.mem_singleton.mp hb
      exact ⟨o, ho, fun v q => by rw [hd] at q; cases q⟩
  keep := by
    rintro i h h' ⟨⟨old, he⟩, hi, hne, hn2⟩ k
    exact ⟨⟨old, k e (by simp) _ he⟩, hi.at fun o q => k it (by simp) o q, hne, hn2⟩
  item := by
    intro X hP hw hK hc i pins s σ H E I hf st hg
    subst hP hw hK
    obtain ⟨⟨old, he⟩, hit, hne, ha1, ha2⟩ := st
    obtain ⟨xs, x, hq, hx⟩ := hg
    obtain ⟨its, rv, p, hz⟩ := I.tuple hq
    obtain ⟨u, hu, ru⟩ := rv.get hx
    have hlt : i < its.toArray.size := by have := (List.getElem?_eq_some_iff.mp hu).1; simpa using this
    have hT : s.heap.IsTuple a its.toArray := by obtain ⟨o, ho, hc, n, hd⟩ := p; exact ⟨o, ho, hc, n, hd⟩
    have W := GoesN.enumFrom (prog := X.prog) (w := X.w) (A := X.A) (elts := elts) (x1 := kk) (pos := tpos) 0 (Draws.tuple (A := X.A.in1) (I.ok.hd hc) it a ha1 its.toArray) e hne (by simp only [List.mem_cons, List.mem_nil_iff, or_false, not_or]; exact ⟨hne, Ne.symm ha2⟩) (by simp)
    refine wpAny_mono (W.goes i s (fun v s2 => ∃ x H', Inv X pins σ H' s2 ∧ RelV x v ∧ (ItT X.K a).yld i H x H' ∧ ((∃ old, IsEnum s2.heap e it ((0 : Int) + ((i + 1 : Nat) : Int)) old) ∧ s2.heap.IsTupleIter it a (i + 1) ∧ e ≠ it ∧ a ≠ it ∧ a ≠ e) ∧ ∀ b ∈ [e, it], H' b = none) E hlt ⟨⟨old, he⟩, hit, hT⟩ ?_) ?_ fun _ _ z => z
    · rintro v h' tk ⟨T, t, y, rfl, hTn, hy, hTT⟩ ⟨⟨old', he'⟩, hit', _⟩ hk htk
      have ey : y = u := by
        have e1 : its.toArray[i]? = some u := by simpa using hu
        rw [e1] at hy
        exact (Option.some.inj hy).symm
      subst ey
      have new : ObjOk X.prog X.w (upd H T (.tup [.int (i : Nat), x])) h' T (.tup [.int (i : Nat), x]) := by
        refine ⟨by show 2 ≤ sizeLine; decide, [.int ((0 : Int) + (i : Int)) t, y], .cons ⟨t, by rw [Int.zero_add]⟩ (.cons ru .nil), ?_⟩
        obtain ⟨o, ho, hc, n, hd⟩ := hTT
        exact ⟨o, ho, hc, n, hd⟩
      have hel : e < s.heap.objs.size := Heap.lt_size he
      have hil : it < s.heap.objs.size := by obtain ⟨_, q, _⟩ := hit; exact Heap.lt_size q
      have I1 := I.turnedNew (t' := tk) (ch := [e, it]) hk hf hTn new
      refine ⟨.ref T, _, I1, rfl, ⟨T, x, rfl, I.hok.fresh hTn, rfl, fun ys hy => ?_⟩, ⟨⟨old', he'⟩, hit', hne, ha1, ha2⟩, fun b hb => ?_⟩
      · obtain ⟨its2, rv2, p2, _⟩ := I.tuple hy
        have hl1 := rv.length
        have hl2 := rv2.length
        rw [I.tuple_inj hy hq]
        exact hx
      · have hbl : b < s.heap.objs.size := by
          rcases List.mem_cons.mp hb with rfl | hb'
          · exact hel
          · obtain rfl := List.mem_singleton.mp hb'; exact hil
        rw [upd_ne (Nat.ne_of_lt (Nat.lt_of_lt_of_le hbl hTn))]
        exact (hf b hb).1
    · rintro r s1 ⟨v, rfl, h2⟩
      exact ⟨v, rfl, h2⟩
  done := by
    intro X hP hw hK hc i pins s σ H E I hf st hg
    subst hP hw hK
    obtain ⟨⟨old, he⟩, hit, hne, ha1, ha2⟩ := st
    obtain ⟨xs, hq, hx⟩ := hg
    obtain ⟨its, rv, p, hz⟩ := I.tuple hq
    have hl := rv.length
    have e0 : its.toArray.size = i := by rw [List.size_toArray, ← hl, hx]
    have hT : s.heap.IsTuple a its.toArray := by obtain ⟨o, ho, hc, n, hd⟩ := p; exact ⟨o, ho, hc, n, hd⟩
    obtain ⟨f0, f1, f2, f3, f4, f5⟩ := hf it (by simp)
    refine wpAny_pyNext_enum_endD (Draws.tuple (A := X.A.in1) (I.ok.hd hc) it a ha1 its.toArray) he (by rw [e0]; exact ⟨hit, hT⟩) fun h' eb => ⟨rfl, I.turned (t' := s.toks) (fun b o hb q => eb b o hb q) f0 f1 f3 f4 f5⟩
  self := by
    rintro A i s Q E ⟨⟨_, he⟩, _⟩ h
    exact wpAny_pyIter_enum he h

def iEnumT (K : PySem.W.Frag) (ta : TA) : TI := fun σ H R => ta σ H fun vs H1 => ∃ a xs, vs = [.ref a] ∧ SqT K H1 a xs ∧ R (ItT K a) H1
theorem pi_enumT {X : Cx} {e : Expr} {ta : TA} {p pos tpos : Pos} {elts : List Expr} {kk : Nat} (hg : Gl X "enumerate") (hm : X.mg "enumerate" = none) (ha : PA X [e] ta) (hs : starEach [e] X.env = [(false, eval e X.env)] := by rfl) :
    PI X (.Tuple elts kk tpos) (.Call (.Name "enumerate" p) [e] [] pos) (iEnumT X.K ta) := by
  constructor
  intro pins s σ H R I h
  refine Call_ (ld_blt I hg hm boot_enumerate (PyProof.Rows.callWith_type1 (thn (ha.run pos pins s σ H _ I h) ?_) hs rfl))
  rintro us s1 ⟨vs, H1, I1, r1, a, xs, rfl, hq, q⟩
  obtain ⟨u, rfl, r⟩ := vals1 r1
  obtain rfl := r
  obtain ⟨its, rv, p', hz⟩ := I1.tuple hq
  have hal : a < s1.heap.objs.size := p'.lt
  have hT : s1.heap.IsTuple a its.toArray := by obtain ⟨o, ho, hc, n, hd⟩ := p'; exact ⟨o, ho, hc, n, hd⟩
  refine enum1_begins (begins_tuple a its.toArray) hT fun h' hen hit hk => wpAny_pyIter_enum hen ?_
  have I2 : Inv X pins σ H1 { s1 with heap := h' } := I1.kept (t' := s1.toks) hk
  refine ⟨s1.heap.objs.size + 1, [s1.heap.objs.size + 1, s1.heap.objs.size], _, _, H1, rfl, I2, turn_enumT a (s1.heap.objs.size + 1) s1.heap.objs.size, ⟨⟨.none, hen⟩, ⟨_, hit, rfl, rfl⟩, Nat.succ_ne_self _, Nat.ne_of_lt hal, Nat.ne_of_lt (Nat.lt_succ_of_lt hal)⟩, ?_, q⟩
  intro b hb
  have hle : s1.heap.objs.size ≤ b := by
    rcases List.mem_cons.mp hb with rfl | hb
    · exact Nat.le_succ _
    · exact Nat.le_of_eq (List.mem_singleton.mp hb).symm
  exact I1.fpOk hle (I1.hok.fresh hle)
/-- the turns over enumerate(t) -/
theorem for_enumT {K : PySem.W.Frag} {a : Addr} {xs : List V} {g : TG} {tb : TS} {D : Ends} {σ : L2.St} {H : Hp} (Pv : Nat → L2.St → Hp → Prop) (h0 : Pv 0 σ H) (hl : ∀ i σ H, i ≤ xs.length → Pv i σ H → SqT K H a xs)
    (hs : ∀ i x σ H T, xs[i]? = some x → Pv i σ H → H T = none → g (.ref T) σ (upd H T (.tup [.int (i : Nat), x])) fun σ2 H2 => tb { D with nx := Pv (i + 1), ct := Pv (i + 1), bk := D.nx } σ2 H2) (hd : ∀ σ H, Pv xs.length σ H → D.nx σ H) :
    ∃ W : Nat → Nat → L2.St → Hp → Prop, (∃ m, W 0 m σ H) ∧ ∀ i m σ H, W i m σ H → ((ItT K a).stop i H ∧ D.nx σ H) ∨ ((ItT K a).go i H ∧ ∃ N : L2.St → Hp → Prop, (∀ σ' H', N σ' H' → ∃ m', m' < m ∧ W (i + 1) m' σ' H') ∧
      ∀ x H', (ItT K a).yld i H x H' → g x σ H' fun σ2 H2 => tb { D with nx := N, ct := N, bk := D.nx } σ2 H2) := by
  refine ⟨fun i m σ H => m = xs.length - i ∧ i ≤ xs.length ∧ Pv i σ H, ⟨_, rfl, Nat.zero_le _, h0⟩, ?_⟩
  rintro i m σ H ⟨rfl, hi, p⟩
  have q := hl i σ H hi p
  by_cases hlt : i < xs.length
  · refine .inr ⟨⟨xs, xs[i], q, List.getElem?_eq_getElem hlt⟩, Pv (i + 1), fun σ' H' p' => ⟨xs.length - (i + 1), by omega, rfl, hlt, p'⟩, ?_⟩
    rintro x H' ⟨T, y, rfl, hT, rfl, hy⟩
    exact hs i y σ H T (hy xs q) p hT
  · obtain rfl : i = xs.length := by omega
    exact .inl ⟨⟨xs, q, rfl⟩, hd σ H p⟩
end Kw

namespace Kw
open PySem PySem.Spec PyProof.Rows L2

/-! ### sorted(d), the keys of d pairs of small ints -/
def kPair (p : Int × Int) : List Key := [.inl p.1, .inl p.2]
def vPair (p : Int × Int) : List V := [.int p.1, .int p.2]
theorem kPair_v (p : Int × Int) : (kPair p).map kV = vPair p := rfl
def pairAt (h : Heap) (v : Value) : Int × Int := ((TS.intsOf h v).getD 0 0, (TS.intsOf h v).getD 1 0)
def PairsAt (H : Hp) (bs : List Addr) (ps : List (Int × Int)) : Prop := Paired (fun b p => H b = some (.tup (vPair p))) bs ps
def rSortDT : List V → Hp → VK → Prop := fun vs H Q => ∃ (a : Addr) (kvs : List (List Key × V)) (ps : List (Int × Int)), vs = [V.ref a] ∧ Rd H a (.dT kvs) ∧ kvs.map (·.1) = ps.map kPair ∧ ps.length < 64 ∧ (∀ p ∈ ps, (0 ≤ p.1 ∧ p.1 < 8) ∧ 0 ≤ p.2 ∧ p.2 < 8) ∧
  ∀ (qs : List (Int × Int)) (bs : List Addr) (p : Addr), qs.Perm ps → qs.Pairwise (fun x y => x.1 * 8 + x.2 ≤ y.1 * 8 + y.2) → PairsAt H bs qs → H p = none → Q (.ref p) (upd H p (.lst (bs.map V.ref)))

theorem paired_of_map {α β γ : Type} {F : α → β → Prop} (f : γ → α) (g : γ → β) : ∀ l : List γ, (∀ x ∈ l, F (f x) (g x)) → Paired F (l.map f) (l.map g)
  | [], _ => .nil
  | x :: l, h => .cons (h x List.mem_cons_self) (paired_of_map f g l fun y hy => h y (List.mem_cons_of_mem _ hy))
theorem kt_keys {H : Hp} {kvs : List (List Key × V)} {xs : List (List Key × Addr × Value)} (r : KT H kvs xs) : kvs.map (·.1) = xs.map (·.1) := by
  induction r with
  | nil => rfl
  | cons h _ ih => rw [List.map_cons, List.map_cons, ih, h.1]
theorem kt_all {H : Hp} {kvs : List (List Key × V)} {xs : List (List Key × Addr × Value)} (r : KT H kvs xs) : ∀ x ∈ xs, H x.2.1 = some (.tup (x.1.map kV)) := by
  induction r with
  | nil => intro x hx; cases hx
  | cons h _ ih =>
    intro x hx
    rcases List.mem_cons.mp hx with rfl | hx
    · rw [← h.1]; exact h.2.1
    · exact ih x hx
def addrOf : Value → Addr
  | .ref a => a
  | _ => 0
theorem cr_sortDT {X : Cx} (hcalm : X.calm = true) : CallR X (.builtin "sorted") rSortDT := by
  intro pins s σ H vs us Q I r h
  obtain ⟨a, kvs, ps, rfl, hd, hks, h64, hb, q⟩ := h
  rw [Vals.ref1 r]
  obtain ⟨z, lo, xs, rel, dd⟩ := dt_rd I.hok hd
  obtain ⟨es, ep, raw, hsz, hen⟩ := dd.raw
  have hk2 : xs.map (·.1) = ps.map kPair := (kt_keys rel).symm.trans hks
  have hxl : xs.length = ps.length := by have e := congrArg List.length hk2; simpa using e
  have hall := kt_all rel
  -- each key: a pair of ints
  have hpair : ∀ x ∈ xs, ∃ p ∈ ps, x.1 = kPair p := fun x hx => by
    have : x.1 ∈ ps.map kPair := by rw [← hk2]; exact List.mem_map.mpr ⟨x, hx, rfl⟩
    obtain ⟨p, hp, e⟩ := List.mem_map.mp this
    exact ⟨p, hp, e.symm⟩
  have htup : ∀ x ∈ xs, ∃ p ∈ ps, x.1 = kPair p ∧ H x.2.1 = some (.tup (vPair p)) ∧ TS.TupInts s.heap (.ref x.2.1) [p.1, p.2] := fun x hx => by
    obtain ⟨p, hp, e⟩ := hpair x hx
    have h1 := hall x hx
    rw [e, kPair_v] at h1
    exact ⟨p, hp, e, h1, tupI_raw I (SqT.of h1)⟩
  refine Calls.call_function_entry PyProof.Rows.kind_sorted PyProof.Rows.plain_sorted PyProof.Rows.entry_sorted (PyProof.Rows.args_sorted1 _) ?_
  unfold Builtin.«sorted»
  refine wpAny_bind (m := checkCount "sorted" 1 1 _) (wpAny_pure ?_)
  refine wpAny_bind (PySem.W.kdu_collect (A := X.A.in1) (PySem.KdlSrc.rawDict (es := es) (ep := ep) lo) (I.ok.hd hcalm) raw (by rw [hsz, hxl, sizeLine_eq]; omega) ?_)
  intro h' tk acc hk hacc
  have hal : acc.toList = xs.map fun x => Value.ref x.2.1 := by
    apply List.ext_getElem?
    intro j
    rw [List.getElem?_map, Array.getElem?_toList]
    by_cases hj : j < es.size
    · obtain ⟨y, h1, h2, _⟩ := hen j hj
      have hja : j < acc.size := by rw [hacc.1]; exact hj
      obtain ⟨_, e⟩ := hacc.2 j acc[j] (Array.getElem?_eq_getElem hja)
      rw [Array.getElem?_eq_getElem hja, h1, e, h2]
      rfl
    · rw [Array.getElem?_eq_none (by rw [hacc.1]; omega), List.getElem?_eq_none (by omega)]
      rfl
  have hlen : acc.toList.length = ps.length := by rw [hal, List.length_map, hxl]
  have I1 : Inv X pins σ H { s with heap := h', toks := tk } := I.kept hk
  refine wpAny_bind (wpAny_newList ?_ (by rw [hlen, sizeLine_eq]; omega))
  have hoL : (h'.push (seqObj "list" acc.toList.toArray 0)).get? h'.objs.size = some (seqObj "list" acc.toList.toArray 0) := Heap.get?_push_size _ rfl
  have keep : ∀ b o, s.heap.get? b = some o → o.cls = .type "tuple" → (h'.push (seqObj "list" acc.toList.toArray 0)).get? b = some o := fun b o e _ => Heap.get?_push_of_some _ (hk b o e)
  have ok : TS.TupsOk (h'.push (seqObj "list" acc.toList.toArray 0)) 2 8 acc.toList := by
    intro v hv
    rw [hal] at hv
    obtain ⟨x, hx, rfl⟩ := List.mem_map.mp hv
    obtain ⟨p, hp, _, _, ht⟩ := htup x hx
    refine ⟨[p.1, p.2], ht.keeps keep, rfl, ?_⟩
    obtain ⟨⟨a1, a2⟩, a3, a4⟩ := hb p hp
    intro m hm
    rcases List.mem_cons.mp hm with rfl | hm
    · exact ⟨a1, a2⟩
    · rcases List.mem_cons.mp hm with rfl | hm
      · exact ⟨a3, a4⟩
      · cases hm
  show wpAny _ _ _ _ _ { s with heap := h'.push (seqObj "list" acc.toList.toArray 0), toks := tk }
  refine wpAny_bind (wpAny_holding (TS.call_sort_tups (s := { s with heap := h'.push (seqObj "list" acc.toList.toArray 0), toks := tk }) hoL (by rw [hlen]; exact h64) (by decide) ok ?_))
  intro out g1 g2
  obtain ⟨e', he'⟩ := PyProof.Rows.sortedHeap_at (vs := acc.toList) (out := out) hoL
  have hmem : ∀ u ∈ out.toList, ∃ x ∈ xs, u = Value.ref x.2.1 := fun u hu => by
    have := g1.mem_iff.mp hu
    rw [hal] at this
    obtain ⟨x, hx, e⟩ := List.mem_map.mp this
    exact ⟨x, hx, e.symm⟩
  have hout : out.toList = (out.toList.map addrOf).map Value.ref := by
    rw [List.map_map]
    refine (List.map_id _).symm.trans (List.map_congr_left fun u hu => ?_)
    obtain ⟨x, _, rfl⟩ := hmem u hu
    rfl
  have hint : ∀ x ∈ xs, ∀ p, x.1 = kPair p → TS.intsOf (h'.push (seqObj "list" acc.toList.toArray 0)) (.ref x.2.1) = [p.1, p.2] := fun x hx p e => by
    obtain ⟨p', _, e2, _, ht⟩ := htup x hx
    have : p = p' := by
      have e3 := e.symm.trans e2
      simp only [kPair, List.cons.injEq, Sum.inl.injEq, and_true] at e3
      exact Prod.ext e3.1 e3.2
    subst this
    exact (ht.keeps keep).ints
  have hps : xs.map (fun x => pairAt (h'.push (seqObj "list" acc.toList.toArray 0)) (.ref x.2.1)) = ps := by
    apply List.ext_getElem?
    intro j
    have ej := congrArg (fun l => l[j]?) hk2
    simp only [List.getElem?_map] at ej
    rw [List.getElem?_map]
    cases hx : xs[j]? with
    | none =>
      rw [hx] at ej
      cases hp : ps[j]? with
      | none => rfl
      | some p => rw [hp] at ej; cases ej
    | some x =>
      rw [hx] at ej
      cases hp : ps[j]? with
      | none => rw [hp] at ej; cases ej
      | some p =>
        rw [hp] at ej
        have e1 : x.1 = kPair p := by simpa using ej
        have e2 := hint x (List.mem_of_getElem? hx) p e1
        simp only [Option.map_some, pairAt, e2]
        rfl
  have hq : (out.toList.map (pairAt (h'.push (seqObj "list" acc.toList.toArray 0)))).Perm ps := by
    rw [← hps]
    have g1' : out.toList.Perm (xs.map fun x => Value.ref x.2.1) := by rw [← hal]; exact g1
    have := g1'.map (pairAt (h'.push (seqObj "list" acc.toList.toArray 0)))
    rw [List.map_map] at this
    exact this
  refine wpAny_pure ⟨_, rfl, .ref h'.objs.size, upd H h'.objs.size (.lst ((out.toList.map addrOf).map V.ref)), I1.laid (t' := tk) (fun b u e => ?_) (Nat.le_refl _) ?_, rfl, q _ (out.toList.map addrOf) _ hq ?_ ?_ (I1.hok.fresh (Nat.le_refl _))⟩
  · have hbl : b < h'.objs.size := Heap.lt_size e
    rw [PyProof.Rows.sortedHeap_old (Nat.ne_of_lt hbl) (by rw [size_push']; exact Nat.lt_succ_of_lt hbl)]
    exact Heap.get?_push_of_some _ e
  · refine ⟨?_, out.toList, e', ?_, by rw [Array.toArray_toList]; exact he'⟩
    · rw [List.length_map, List.length_map, g1.length_eq, hlen]
      exact Nat.le_trans (Nat.le_of_lt h64) (by decide)
    · have := vals_refs (out.toList.map addrOf)
      rw [← hout] at this
      exact this
  · rw [List.pairwise_map]
    refine List.Pairwise.imp_of_mem ?_ g2
    intro u v hu hv huv
    obtain ⟨x, hx, rfl⟩ := hmem u hu
    obtain ⟨y, hy, rfl⟩ := hmem v hv
    obtain ⟨p, _, e1⟩ := hpair x hx
    obtain ⟨p', _, e2⟩ := hpair y hy
    have e3 := hint x hx p e1
    have e4 := hint y hy p' e2
    dsimp only at huv
    rw [e3, e4] at huv
    simp only [pairAt, e3, e4, List.getD_cons_zero, List.getD_cons_succ]
    simp only [TS.code, List.length_cons, List.length_nil] at huv
    omega
  · have : out.toList.map (pairAt (h'.push (seqObj "list" acc.toList.toArray 0))) = (out.toList.map addrOf).map (fun b => pairAt (h'.push (seqObj "list" acc.toList.toArray 0)) (.ref b)) := by
      rw [List.map_map]
      refine List.map_congr_left fun u hu => ?_
      obtain ⟨x, _, rfl⟩ := hmem u hu
      rfl
    rw [this]
    have h3 := paired_of_map (F := fun b p => H b = some (.tup (vPair p))) id (fun b => pairAt (h'.push (seqObj "list" acc.toList.toArray 0)) (.ref b)) (out.toList.map addrOf) fun b hb => by
      obtain ⟨u, hu, rfl⟩ := List.mem_map.mp hb
      obtain ⟨x, hx, rfl⟩ := hmem u hu
      obtain ⟨p, _, e1, e2, _⟩ := htup x hx
      show H x.2.1 = some (.tup (vPair (pairAt _ (.ref x.2.1))))
      have e3 := hint x hx p e1
      simp only [pairAt, e3]
      exact e2
    rw [List.map_id] at h3
    exact h3
end Kw

namespace Kw
open PySem PySem.Spec PyProof.Rows L2

/-! ### min of texts -/
theorem cmp_str_lt {prog : Program} {w : World} {A : Around} {P : Nat → Value → Prop} (f : Nat → Str) (hf : ∀ i v, P i v → ∃ t, v = .str (f i) t) :
    CmpOf prog w A .Lt P (fun i j => decide ((f i).cps.toList < (f j).cps.toList)) := by
  intro i j vi vj s Q E hi hj h
  obtain ⟨t, rfl⟩ := hf i vi hi
  obtain ⟨u, rfl⟩ := hf j vj hj
  exact richCompare_gives (op := .Lt) (typeIs_str s _ t) (typeIs_str s _ u) F.slot_str_lt F.entry_str_lt (F.args_str_lt_2 _ _) (gives_str_lt _ _ t u) (fun x => nomatch x) h
theorem cmp_str_gt {prog : Program} {w : World} {A : Around} {P : Nat → Value → Prop} (f : Nat → Str) (hf : ∀ i v, P i v → ∃ t, v = .str (f i) t) :
    CmpOf prog w A .Gt P (fun i j => decide ((f j).cps.toList < (f i).cps.toList)) := by
  intro i j vi vj s Q E hi hj h
  obtain ⟨t, rfl⟩ := hf i vi hi
  obtain ⟨u, rfl⟩ := hf j vj hj
  exact richCompare_gives (op := .Gt) (typeIs_str s _ t) (typeIs_str s _ u) F.slot_str_gt F.entry_str_gt (F.args_str_gt_2 _ _) (gives_str_gt _ _ t u) (fun x => nomatch x) h
theorem best_lt (g : Nat → List Nat) : ∀ k, argBest (fun i j => decide (g i < g j)) k ≤ k ∧ ∀ j, j ≤ k → ¬ g j < g (argBest (fun i j => decide (g i < g j)) k)
  | 0 => ⟨Nat.le_refl _, fun j hj => by obtain rfl : j = 0 := by omega
                                        exact List.lt_irrefl _⟩
  | k + 1 => by
    obtain ⟨h1, h2⟩ := best_lt g k
    show (if decide (g (k + 1) < g (argBest (fun i j => decide (g i < g j)) k)) = true then k + 1 else argBest (fun i j => decide (g i < g j)) k) ≤ k + 1 ∧ _
    by_cases c : g (k + 1) < g (argBest (fun i j => decide (g i < g j)) k)
    · have e : argBest (fun i j => decide (g i < g j)) (k + 1) = k + 1 := if_pos (decide_eq_true c)
      rw [e, if_pos (decide_eq_true c)]
      refine ⟨Nat.le_refl _, fun j hj hlt => ?_⟩
      rcases Nat.lt_or_ge j (k + 1) with h | h
      · exact h2 j (by omega) (List.lt_trans hlt c)
      · obtain rfl : j = k + 1 := by omega
        exact List.lt_irrefl _ hlt
    · have e : argBest (fun i j => decide (g i < g j)) (k + 1) = argBest (fun i j => decide (g i < g j)) k := if_neg (by simpa using c)
      rw [e, if_neg (by simpa using c)]
      refine ⟨by omega, fun j hj hlt => ?_⟩
      rcases Nat.lt_or_ge j (k + 1) with h | h
      · exact h2 j (by omega) hlt
      · obtain rfl : j = k + 1 := by omega
        exact c hlt
def rMinS (K : PySem.W.Frag) : List V → Hp → VK → Prop := fun vs H Q => ∃ (a : Addr) (zs : List Str), vs = [V.ref a] ∧ SqL K H a (zs.map V.str) ∧ 0 < zs.length ∧
  ∀ m, m ∈ zs → (∀ y, y ∈ zs → ¬ y.cps.toList < m.cps.toList) → Q (.str m) H
theorem cr_minS {X : Cx} (hc : X.calm = true) : CallR X (.builtin "min") (rMinS X.K) := by
  intro pins s σ H vs us Q I r h
  obtain ⟨a, zs, rfl, hs, hne, q⟩ := h
  obtain ⟨its, rv, hl, hz⟩ := I.list hs
  rw [Vals.ref1 r]
  have hL : s.heap.IsList a its.toArray := hl.isList
  have hal : a < s.heap.objs.size := by obtain ⟨_, e, _⟩ := hL; exact Heap.lt_size e
  have hlen : its.length = zs.length := by have := rv.length; simpa using this.symm
  have hval : ∀ (i : Nat) (v : Value), its.toArray[i]? = some v → ∃ t, v = Value.str (zs.getD i ⟨#[]⟩) t := fun i v e => by
    have e1 : its[i]? = some v := by simpa using e
    have hi : i < zs.length := by have := (List.getElem?_eq_some_iff.mp e1).1; omega
    obtain ⟨u, hu, ru⟩ := rv.get (i := i) (x := .str zs[i]) (by rw [List.getElem?_map, List.getElem?_eq_getElem hi]; rfl)
    rw [e1] at hu
    cases hu
    obtain ⟨t, rfl⟩ := ru
    refine ⟨t, ?_⟩
    rw [List.getD_eq_getElem?_getD, List.getElem?_eq_getElem hi]
    rfl
  refine call_min_walk (wpAny_pyIter_list hL ?_)
  refine ⟨_, _, _, _, _, _, _, rfl, Walks.list (A := X.A.in1) (I.ok.hd hc) _ a (Nat.ne_of_lt hal) its.toArray, ⟨⟨_, Heap.get?_push_size _ rfl, rfl, rfl⟩, hL.push _⟩, ?_, by rw [List.size_toArray]; omega, cmp_str_lt (fun i => zs.getD i ⟨#[]⟩) hval, ?_⟩
  · intro b hb
    show b < (s.heap.push _).objs.size
    rw [Heap.size_push]
    rcases List.mem_cons.mp hb with rfl | hb
    · exact Nat.lt_succ_self _
    · rw [List.mem_singleton.mp hb]; exact Nat.lt_succ_of_lt hal
  · intro v h' tk hP hk
    obtain ⟨b1, b2⟩ := best_lt (fun i => (zs.getD i ⟨#[]⟩).cps.toList) (its.toArray.size - 1)
    obtain ⟨t, rfl⟩ := hval _ _ hP
    have hsz : its.toArray.size = zs.length := by rw [List.size_toArray, hlen]
    refine ⟨.str _, H, I.kept (t' := tk) (old_kept hk), ⟨t, rfl⟩, q _ ?_ ?_⟩
    · rw [List.getD_eq_getElem?_getD, List.getElem?_eq_getElem (by omega)]
      exact List.getElem_mem _
    · intro y hy
      obtain ⟨j, hj, rfl⟩ := List.mem_iff_getElem.mp hy
      have := b2 j (by omega)
      rw [List.getD_eq_getElem?_getD (l := zs) (i := j), List.getElem?_eq_getElem hj] at this
      exact this
/-- min(x, y), max(x, y) of two texts -/
def rMin2S : List V → Hp → VK → Prop := fun vs H Q => ∃ x y : Str, vs = [.str x, .str y] ∧ Q (.str (if y.cps.toList < x.cps.toList then y else x)) H
def rMax2S : List V → Hp → VK → Prop := fun vs H Q => ∃ x y : Str, vs = [.str x, .str y] ∧ Q (.str (if x.cps.toList < y.cps.toList then y else x)) H
theorem two_at {x y : Str} {t u : Tok} (i : Nat) (v : Value) (e : (#[Value.str x t, Value.str y u] : Array Value)[i]? = some v) : ∃ t', v = .str ([x, y].getD i ⟨#[]⟩) t' := by
  match i, e with
  | 0, e => cases e; exact ⟨t, rfl⟩
  | 1, e => cases e; exact ⟨u, rfl⟩
  | n + 2, e => simp at e
theorem cr_min2S {X : Cx} (hc : X.calm = true) : CallR X (.builtin "min") rMin2S := by
  intro pins s σ H vs us Q I r h
  obtain ⟨x, y, rfl, q⟩ := h
  obtain ⟨u, w', rfl, ⟨t, rfl⟩, ⟨t', rfl⟩⟩ := vals2 r
  have hT : (s.heap.push { cls := .type "tuple", data := .seq #[.str x t, .str y t'] }).IsTuple s.heap.objs.size #[.str x t, .str y t'] := ⟨_, Heap.get?_push_size _ rfl, rfl, 0, rfl⟩
  have hsz : (s.heap.push { cls := .type "tuple", data := .seq #[.str x t, .str y t'] }).objs.size = s.heap.objs.size + 1 := Heap.size_push ..
  refine call_min_two (wpAny_pyIter_tuple hT ?_)
  refine ⟨_, [_, s.heap.objs.size], [_], _, _, _, _, rfl, Walks.tuple (A := X.A.in1) (I.ok.hd hc) _ s.heap.objs.size (by rw [hsz]; exact Nat.ne_of_lt (Nat.lt_succ_self _)) #[.str x t, .str y t'],
    ⟨⟨_, Heap.get?_push_size _ rfl, rfl, rfl⟩, hT.push _⟩, fun c hcm => ?_, (by simp), cmp_str_lt (fun i => [x, y].getD i ⟨#[]⟩) two_at, fun v h' tk hP hk => ?_⟩
  · show c < ((s.heap.push _).push _).objs.size
    rw [Heap.size_push, hsz]
    rcases List.mem_cons.mp hcm with rfl | hcm
    · rw [hsz]; exact Nat.lt_succ_self _
    · rw [List.mem_singleton.mp hcm]; exact Nat.lt_succ_of_lt (Nat.lt_succ_self _)
  · have kept : ∀ b o, s.heap.get? b = some o → h'.get? b = some o := fun b o e => hk b o (by
      intro hm
      have := List.mem_singleton.mp hm
      rw [hsz] at this
      exact absurd (Heap.lt_size e) (by rw [this]; exact Nat.not_lt.mpr (Nat.le_succ _))) (Heap.get?_push_of_some _ (Heap.get?_push_of_some _ e))
    have hP' : (#[Value.str x t, Value.str y t'] : Array Value)[argBest (fun i j => decide (([x, y].getD i ⟨#[]⟩).cps.toList < ([x, y].getD j ⟨#[]⟩).cps.toList)) 1]? = some v := hP
    have hb : argBest (fun i j => decide (([x, y].getD i ⟨#[]⟩).cps.toList < ([x, y].getD j ⟨#[]⟩).cps.toList)) 1 = if y.cps.toList < x.cps.toList then 1 else 0 := by
      show (if decide (y.cps.toList < x.cps.toList) = true then 1 else 0) = _
      by_cases c : y.cps.toList < x.cps.toList
      · rw [if_pos (decide_eq_true c), if_pos c]
      · rw [if_neg (by simpa using c), if_neg c]
    rw [hb] at hP'
    refine ⟨_, H, I.kept (t' := tk) kept, ?_, q⟩
    by_cases c : y.cps.toList < x.cps.toList
    · rw [if_pos c] at hP' ⊢
      cases hP'
      exact ⟨_, rfl⟩
    · rw [if_neg c] at hP' ⊢
      cases hP'
      exact ⟨_, rfl⟩
theorem cr_max2S {X : Cx} (hc : X.calm = true) : CallR X (.builtin "max") rMax2S := by
  intro pins s σ H vs us Q I r h
  obtain ⟨x, y, rfl, q⟩ := h
  obtain ⟨u, w', rfl, ⟨t, rfl⟩, ⟨t', rfl⟩⟩ := vals2 r
  have hT : (s.heap.push { cls := .type "tuple", data := .seq #[.str x t, .str y t'] }).IsTuple s.heap.objs.size #[.str x t, .str y t'] := ⟨_, Heap.get?_push_size _ rfl, rfl, 0, rfl⟩
  have hsz : (s.heap.push { cls := .type "tuple", data := .seq #[.str x t, .str y t'] }).objs.size = s.heap.objs.size + 1 := Heap.size_push ..
  refine call_max_two (wpAny_pyIter_tuple hT ?_)
  refine ⟨_, [_, s.heap.objs.size], [_], _, _, _, _, rfl, Walks.tuple (A := X.A.in1) (I.ok.hd hc) _ s.heap.objs.size (by rw [hsz]; exact Nat.ne_of_lt (Nat.lt_succ_self _)) #[.str x t, .str y t'],
    ⟨⟨_, Heap.get?_push_size _ rfl, rfl, rfl⟩, hT.push _⟩, fun c hcm => ?_, (by simp), cmp_str_gt (fun i => [x, y].getD i ⟨#[]⟩) two_at, fun v h' tk hP hk => ?_⟩
  · show c < ((s.heap.push _).push _).objs.size
    rw [Heap.size_push, hsz]
    rcases List.mem_cons.mp hcm with rfl | hcm
    · rw [hsz]; exact Nat.lt_succ_self _
    · rw [List.mem_singleton.mp hcm]; exact Nat.lt_succ_of_lt (Nat.lt_succ_self _)
  · have kept : ∀ b o, s.heap.get? b = some o → h'.get? b = some o := fun b o e => hk b o (by
      intro hm
      have := List.mem_singleton.mp hm
      rw [hsz] at this
      exact absurd (Heap.lt_size e) (by rw [this]; exact Nat.not_lt.mpr (Nat.le_succ _))) (Heap.get?_push_of_some _ (Heap.get?_push_of_some _ e))
    have hP' : (#[Value.str x t, Value.str y t'] : Array Value)[argBest (fun i j => decide (([x, y].getD j ⟨#[]⟩).cps.toList < ([x, y].getD i ⟨#[]⟩).cps.toList)) 1]? = some v := hP
    have hb : argBest (fun i j => decide (([x, y].getD j ⟨#[]⟩).cps.toList < ([x, y].getD i ⟨#[]⟩).cps.toList)) 1 = if x.cps.toList < y.cps.toList then 1 else 0 := by
      show (if decide (x.cps.toList < y.cps.toList) = true then 1 else 0) = _
      by_cases c : x.cps.toList < y.cps.toList
      · rw [if_pos (decide_eq_true c), if_pos c]
      · rw [if_neg (by simpa using c), if_neg c]
    rw [hb] at hP'
    refine ⟨_, H, I.kept (t' := tk) kept, ?_, q⟩
    by_cases c : x.cps.toList < y.cps.toList
    · rw [if_pos c] at hP' ⊢
      cases hP'
      exact ⟨_, rfl⟩
    · rw [if_neg c] at hP' ⊢
      cases hP'
      exact ⟨_, rfl⟩
end Kw

namespace Kw
open PySem PySem.Spec PyProof.Rows L2

/-! ### dicts whose keys are (int, (int, int)) and whose values are ints -/
abbrev K3 := Int × (Int × Int)
/-- key, where the key's tuple stands, value -/
abbrev En := K3 × Addr × Int
def nk (k : K3) : NestedKey := .tup [.num k.1, .tup [.num k.2.1, .num k.2.2]]
theorem nk_inj {a b : K3} (h : nk a = nk b) : a = b := by
  obtain ⟨a1, a2, a3⟩ := a
  obtain ⟨b1, b2, b3⟩ := b
  simp only [nk, NestedKey.tup.injEq, List.cons.injEq, NestedKey.num.injEq, and_true] at h
  obtain ⟨h1, h2, h3⟩ := h
  rw [h1, h2, h3]
def look (es : List En) (k : K3) : Option Int := (es.find? fun e => decide (e.1 = k)).map (·.2.2)
def nput (es : List En) (k : K3) (b : Addr) (v : Int) : List En := if (look es k).isSome then es.map (fun e => if e.1 = k then (e.1, e.2.1, v) else e) else es ++ [(k, b, v)]
abbrev RN (e : En) (x : NestedKey × Addr × Value) : Prop := x.1 = nk e.1 ∧ x.2.1 = e.2.1 ∧ RelV (.int e.2.2) x.2.2
def NDx (P : Program) (w : World) (a : Addr) (es : List En) (h : Heap) : Prop :=
  (a == sysModules) = false ∧ es.length ≤ sizeLine ∧ (es.map (·.1)).Nodup ∧ ∃ xs : List (NestedKey × Addr × Value), Paired RN es xs ∧
    ∃ o des ep, h.get? a = some o ∧ o.ExactDict ∧ o.data = .dict des ep ∧ des.toList = xs.map (entryOfKey (nestedKind P w))
/-- such a dict, by its object alone -/
def NDo (P : Program) (w : World) (a : Addr) (es : List En) : HO := .ext (NDx P w a es)
def KeyAt (H : Hp) (b : Addr) (k : K3) : Prop := ∃ c, H b = some (.tup [.int k.1, .ref c]) ∧ H c = some (.tup [.int k.2.1, .int k.2.2])
/-- the dict at a, which may be read; which may be changed -/
def ND (P : Program) (w : World) (H : Hp) (a : Addr) (es : List En) : Prop := Rd H a (NDo P w a es) ∧ ∀ e ∈ es, KeyAt H e.2.1 e.1
def NDm (P : Program) (w : World) (H : Hp) (a : Addr) (es : List En) : Prop := H a = some (NDo P w a es) ∧ ∀ e ∈ es, KeyAt H e.2.1 e.1

section
variable {P : Program} {w : World} {H H' : Hp} {h h' : Heap} {a : Addr} {es : List En}
theorem NDx.at (x : NDx P w a es h) (k : ∀ o, h.get? a = some o → h'.get? a = some o) : NDx P w a es h' := by
  obtain ⟨h1, h2, h3, xs, h4, o, des, ep, h5, h6⟩ := x
  exact ⟨h1, h2, h3, xs, h4, o, des, ep, k o h5, h6⟩
theorem NDx.ok (x : NDx P w a es h) : ObjOk P w H h a (NDo P w a es) := by
  obtain ⟨o, h5⟩ : ∃ o, h.get? a = some o := by
    obtain ⟨h1, h2, h3, xs, h4, o, des, ep, h5, h6⟩ := x
    exact ⟨o, h5⟩
  exact ⟨x, ⟨o, h5⟩, fun h1 h2 y k => y.at k⟩
theorem KeyAt.mono {b : Addr} {k : K3} (x : KeyAt H b k) (e : ∀ b xs, H b = some (.tup xs) → H' b = some (.tup xs)) : KeyAt H' b k := by
  obtain ⟨c, h1, h2⟩ := x
  exact ⟨c, e _ _ h1, e _ _ h2⟩
theorem NDm.nd (x : NDm P w H a es) : ND P w H a es := ⟨.inl x.1, x.2⟩
theorem ND.mono (x : ND P w H a es) (e : Evl.Ex H H') : ND P w H' a es := ⟨Evl.ex_rd e x.1, fun y hy => (x.2 y hy).mono fun b xs q => e b _ q⟩
theorem NDm.mono (x : NDm P w H a es) (e : Evl.Ex H H') : NDm P w H' a es := ⟨e _ _ x.1, fun y hy => (x.2 y hy).mono fun b xs q => e b _ q⟩
/-- a tracked pair of an int and a pair of ints is a key -/
theorem key_is (ok : HOk P w H h) {b : Addr} {k : K3} (x : KeyAt H b k) : (nestedKind P w).is h (nk k) b := by
  obtain ⟨c, h1, h2⟩ := x
  obtain ⟨_, its1, r1, o1, e1, e2, n1, e3⟩ := (show ObjOk P w H h b (.tup [.int k.1, .ref c]) from ok b _ h1)
  obtain ⟨_, its2, r2, o2, f1, f2, n2, f3⟩ := (show ObjOk P w H h c (.tup [.int k.2.1, .int k.2.2]) from ok c _ h2)
  obtain ⟨u1, u2, rfl, ⟨t1, rfl⟩, rv2⟩ := r1.two
  obtain ⟨v1, v2, rfl, ⟨s1, rfl⟩, ⟨s2, rfl⟩⟩ := r2.two
  obtain rfl : u2 = .ref c := rv2
  refine ⟨NestedIs.tup e1 e2 e3 (.cons (.int _ _) (.cons (NestedIs.tup f1 f2 f3 (.cons (.int _ _) (.cons (.int _ _) .nil))) .nil)), ?_⟩
  show (nk k).depth ≤ 8
  simp [nk, NestedKey.depth, NestedKey.depthAll]
theorem rn_look {xs : List (NestedKey × Addr × Value)} (r : Paired RN es xs) (k : K3) : (look es k = none ∧ atKey xs (nk k) = none) ∨ ∃ v p, look es k = some v ∧ atKey xs (nk k) = some p ∧ RelV (.int v) p.2 := by
  induction r with
  | nil => exact .inl ⟨rfl, rfl⟩
  | @cons e x es xs h t ih =>
    obtain ⟨h1, h2, h3⟩ := h
    by_cases c : e.1 = k
    · refine .inr ⟨e.2.2, x.2, ?_, ?_, h3⟩
      · simp [look, List.find?_cons, c]
      · simp [atKey, List.find?_cons, h1, c]
    · have c' : ¬ x.1 = nk k := fun z => c (nk_inj (h1.symm.trans z))
      rcases ih with ⟨i1, i2⟩ | ⟨v, p, i1, i2, i3⟩
      · refine .inl ⟨?_, ?_⟩
        · simpa [look, List.find?_cons, c] using i1
        · simpa [atKey, List.find?_cons, c'] using i2
      · refine .inr ⟨v, p, ?_, ?_, i3⟩
        · simpa [look, List.find?_cons, c] using i1
        · simpa [atKey, List.find?_cons, c'] using i2
theorem rn_put {xs : List (NestedKey × Addr × Value)} (r : Paired RN es xs) (k : K3) (b : Addr) {v : Int} {u : Value} (rv : RelV (.int v) u) : Paired RN (nput es k b v) (storedH xs (nk k) b u) := by
  have rep : ∀ {es : List En} {xs : List (NestedKey × Addr × Value)}, Paired RN es xs → Paired RN (es.map (fun e => if e.1 = k then (e.1, e.2.1, v) else e)) (xs.map (putAt (nk k) u)) := by
    intro es xs r
    induction r with
    | nil => exact .nil
    | @cons e x es xs h t ih =>
      refine .cons ?_ ih
      obtain ⟨h1, h2, h3⟩ := h
      show RN (if e.1 = k then (e.1, e.2.1, v) else e) (putAt (nk k) u x)
      by_cases c : e.1 = k
      · rw [if_pos c, putAt, if_pos (by rw [h1, c])]
        exact ⟨h1, h2, rv⟩
      · rw [if_neg c, putAt, if_neg (fun z => c (nk_inj (h1.symm.trans z)))]
        exact ⟨h1, h2, h3⟩
  unfold nput storedH
  rcases rn_look r k with ⟨i1, i2⟩ | ⟨v', p, i1, i2, _⟩
  · rw [i1, i2]
    exact Paired.snoc r ⟨rfl, rfl, rv⟩
  · rw [i1, i2]
    exact rep r
theorem nput_length (es : List En) (k : K3) (b : Addr) (v : Int) : (nput es k b v).length ≤ es.length + 1 := by
  unfold nput
  split
  · rw [List.length_map]; omega
  · rw [List.length_append]; exact Nat.le_refl _
theorem look_none {es : List En} {k : K3} (h : look es k = none) : ∀ e ∈ es, e.1 ≠ k := by
  intro e he c
  simp only [look, Option.map_eq_none_iff, List.find?_eq_none, decide_eq_true_eq] at h
  exact h e he c
theorem nput_keys (es : List En) (k : K3) (b : Addr) (v : Int) : (nput es k b v).map (·.1) = if (look es k).isSome then es.map (·.1) else es.map (·.1) ++ [k] := by
  unfold nput
  split
  · rw [List.map_map]
    refine List.map_congr_left fun e _ => ?_
    show (if e.1 = k then (e.1, e.2.1, v) else e).1 = e.1
    split <;> rfl
  · rw [List.map_append]; rfl
theorem nput_nodup {es : List En} (k : K3) (b : Addr) (v : Int) (h : (es.map (·.1)).Nodup) : ((nput es k b v).map (·.1)).Nodup := by
  rw [nput_keys]
  cases c : look es k with
  | some _ => exact h
  | none =>
    show (es.map (·.1) ++ [k]).Nodup
    rw [List.nodup_append]
    refine ⟨h, by simp, ?_⟩
    intro x hx y hy
    obtain rfl := List.mem_singleton.mp hy
    obtain ⟨e, he, rfl⟩ := List.mem_map.mp hx
    exact look_none c e he
/-- each entry behind a store: an old key's, or the new one -/
theorem nput_mem {es : List En} {k : K3} {b : Addr} {v : Int} {e : En} (h : e ∈ nput es k b v) : (∃ e' ∈ es, e'.1 = e.1 ∧ e'.2.1 = e.2.1) ∨ (e.1 = k ∧ e.2.1 = b) := by
  unfold nput at h
  split at h
  · obtain ⟨e', h1, h2⟩ := List.mem_map.mp h
    split at h2
    · subst h2; exact .inl ⟨e', h1, rfl, rfl⟩
    · subst h2; exact .inl ⟨e', h1, rfl, rfl⟩
  · rcases List.mem_append.mp h with h | h
    · exact .inl ⟨e, h, rfl, rfl⟩
    · obtain rfl := List.mem_singleton.mp h
      exact .inr ⟨rfl, rfl⟩
/-- the dict as the library tells it -/
theorem nd_of (ok : HOk P w H h) (x : ND P w H a es) : (a == sysModules) = false ∧ es.length ≤ sizeLine ∧ (es.map (·.1)).Nodup ∧ ∃ xs, Paired RN es xs ∧ h.DictOfH (nestedKind P w) a xs := by
  obtain ⟨⟨h1, h2, h3, xs, h4, o, des, ep, h5, h6, h7, h8⟩, _⟩ := (show ObjOk P w H h a (NDo P w a es) from x.1.ok ok)
  refine ⟨h1, h2, h3, xs, h4, o, des, ep, h5, h6, h7, h8, ?_, ?_⟩
  · have all : ∀ {l : List En} {m : List (NestedKey × Addr × Value)}, Paired RN l m → (∀ e ∈ l, KeyAt H e.2.1 e.1) → ∀ y ∈ m, (nestedKind P w).is h y.1 y.2.1 := by
      intro l m r
      induction r with
      | nil => intro _ y hy; cases hy
      | @cons e y l m q t ih =>
        intro hk z hz
        rcases List.mem_cons.mp hz with rfl | hz
        · have := key_is ok (hk e List.mem_cons_self)
          rw [q.1, q.2.1]
          exact this
        · exact ih (fun e' he' => hk e' (List.mem_cons_of_mem _ he')) z hz
    exact all h4 x.2
  · have e : xs.map (·.1) = (es.map (·.1)).map nk := by
      have go : ∀ {l : List En} {m : List (NestedKey × Addr × Value)}, Paired RN l m → m.map (·.1) = (l.map (·.1)).map nk := by
        intro l m r
        induction r with
        | nil => rfl
        | cons q t ih => rw [List.map_cons, List.map_cons, List.map_cons, ih, q.1]
      exact go h4
    rw [e]
    exact List.Pairwise.map nk (fun x y hne hxy => hne (nk_inj hxy)) h3
end

section
variable {X : Cx} {pins : List (Addr × Obj)} {σ : L2.St} {H : Hp} {s : Shared} {a b : Addr} {es : List En} {k : K3} {v : Int} {A : Around} {E : Value → Shared → Prop}
theorem roomN (hu : A.units + 64 < cLine) : (nestedKind X.prog X.w).room A.in1 := by
  show A.in1.units + 8 < cLine
  rw [Around.in1_units]
  omega
theorem nd_empty {P : Program} {w : World} (h : Heap) (hb : sysModules < h.objs.size) : NDx P w h.objs.size [] (h.push { cls := .type "dict", data := .dict #[] }) :=
  ⟨beq_eq_false_iff_ne.mpr (Ne.symm (Nat.ne_of_lt hb)), Nat.zero_le _, List.nodup_nil, [], .nil, _, #[], 0, Heap.get?_push_size _ rfl, ⟨rfl, rfl, rfl⟩, rfl, rfl⟩
/-- {}, to be such a dict -/
def tDNewN (P : Program) (w : World) : TE := fun _ H Q => ∀ p, H p = none → Q (.ref p) (upd H p (NDo P w p []))
theorem pe_dnewN {pos : Pos} : PE X (.Dict [] [] pos) (tDNewN X.prog X.w) := by
  constructor
  intro pins s σ H Q I h
  exact wpAny_Dict_empty ⟨.ref s.heap.objs.size, _, I.laid (a := s.heap.objs.size) (o := NDo X.prog X.w s.heap.objs.size []) (t' := s.toks) (fun _ _ q => Heap.get?_push_of_some _ q) (Nat.le_refl _) (NDx.ok (nd_empty s.heap I.big)), rfl, h _ (I.hok.fresh (Nat.le_refl _))⟩
/-- d[k], there -/
def rIxN (P : Program) (w : World) : R2 := fun x y H Q => ∃ a b es k v, x = .ref a ∧ y = .ref b ∧ ND P w H a es ∧ KeyAt H b k ∧ look es k = some v ∧ Q (.int v) H
theorem ix_nd (hu : X.A.units + 64 < cLine) : IxR X (rIxN X.prog X.w) := by
  intro value slice pins s σ H x y u1 u2 Q I rx ry h hs
  obtain ⟨a, b, es, k, v, rfl, rfl, hd, hk, hl, q⟩ := h
  obtain rfl := rx
  obtain rfl := ry
  obtain ⟨lo, hz, hn, xs, r, dd⟩ := nd_of I.hok hd
  rcases rn_look r k with ⟨i1, _⟩ | ⟨v', p, i1, i2, i3⟩
  · rw [hl] at i1; cases i1
  · rw [hl] at i1
    cases i1
    exact tail_any dd.typeIs slot_dict_getitem.lookup (wpAny_getItem_heap (roomN hu) (key_is I.hok hk) dd i2 ⟨.int v, H, I.tok _, i3, q⟩) hs
/-- d[k] = v -/
def rSetN (P : Program) (w : World) : TSet := fun o i v H Q => ∃ a b es k n, o = .ref a ∧ i = .ref b ∧ v = .int n ∧ NDm P w H a es ∧ KeyAt H b k ∧ es.length < sizeLine ∧ Q (upd H a (NDo P w a (nput es k b n)))
theorem nd_store {D : Addr} {xs : List (NestedKey × Addr × Value)} {n : Int} {u : Value} {h' : Heap} {t' : Nat} (I : Inv X pins σ H s) (hD : NDm X.prog X.w H D es) (hz : es.length < sizeLine) (lo : (D == sysModules) = false) (hn : (es.map (·.1)).Nodup) (r : Paired RN es xs) (rv : RelV (.int n) u)
    (dd' : h'.DictOfH (nestedKind X.prog X.w) D (storedH xs (nk k) b u)) (hs : Heap.SameBut D s.heap h') : Inv X pins σ (upd H D (NDo X.prog X.w D (nput es k b n))) { s with heap := h', toks := t' } := by
  obtain ⟨o, des, ep, h1, h2, h3, h4, h5, h6⟩ := dd'
  refine d_write I (by rw [hD.1]; exact True.intro) hs ⟨o, h1⟩ (NDx.ok ⟨lo, ?_, nput_nodup k b n hn, _, rn_put r k b rv, o, des, ep, h1, h2, h3, h4⟩)
  have := nput_length es k b n
  omega
theorem set_nd (hu : X.A.units + 64 < cLine) : PSet X (rSetN X.prog X.w) := by
  intro pins s σ H o i v ov iv u Q I ro ri rv h
  obtain ⟨a, b, es, k, n, rfl, rfl, rfl, hd, hk, hz, q⟩ := h
  obtain rfl := ro
  obtain rfl := ri
  obtain ⟨lo, hz', hn, xs, r, dd⟩ := nd_of I.hok hd.nd
  have hxl : xs.length = es.length := (Paired.length r).symm
  exact wpAny_setItem_heap (hsz := by omega) (roomN hu) (key_is I.hok hk) dd fun h' dd' hs => ⟨_, nd_store (t' := _) I hd hz lo hn r rv dd' hs, q⟩
/-- d.get(k, x) -/
def tGetN (P : Program) (w : World) (td ty tx : TE) : TE := fun σ H Q => td σ H fun x H1 => ∃ a es, x = .ref a ∧ ND P w H1 a es ∧ ty σ H1 fun y H2 => tx σ H2 fun z H3 => ∃ b k n es', y = .ref b ∧ z = .int n ∧ ND P w H3 a es' ∧ KeyAt H3 b k ∧ Q (.int ((look es' k).getD n)) H3
theorem pe_getN {o e f : Expr} {apos cpos : Pos} {td ty tx : TE} (hu : X.A.units + 64 < cLine) (ho : PE X o td) (he : PE X e ty) (hf : PE X f tx) (m : M2 X o "get" apos e f cpos) : PE X (.Call (.Attribute o "get" apos) [e, f] [] cpos) (tGetN X.prog X.w td ty tx) := by
  constructor
  intro pins s σ H Q I h
  refine wpAny_Call_method m.base m.few m.line PySem.F.plainAttrs_dict PySem.F.slot_dict_get PySem.F.type_dict_get (thn (ho.run pins s σ H _ I h) ?_)
  rintro u s1 ⟨x, H1, I1, rx, a, es, rfl, hd, q1⟩
  obtain rfl := rx
  obtain ⟨lo, _, _, xs, r, dd⟩ := nd_of I1.hok hd
  refine ⟨dd.typeIs, fun b' e' => ?_, ?_⟩
  · cases e'
    obtain ⟨ob, _, _, h1, h2, _⟩ := dd
    exact ⟨ob, h1, h2.2.1⟩
  · rw [m.trees]
    refine Calls.callWith_builtin rfl (Calls.evalArgs_plain (Calls.spliced_cons (thn (he.run pins s1 σ H1 _ I1 q1) ?_)))
    rintro iv s2 ⟨y, H2, I2, ry, q2⟩
    refine Calls.spliced_cons (thn (hf.run pins s2 σ H2 _ I2 q2) ?_)
    rintro fv s3 ⟨z, H3, I3, rz, b, k, n, es', rfl, rfl, hd', hk, q3⟩
    refine Calls.spliced_nil ?_
    obtain rfl := ry
    obtain ⟨lo', _, _, xs', r', dd'⟩ := nd_of I3.hok hd'
    refine call_meetsIn PySem.F.slot_dict_get dd'.typeIs PySem.F.entry_dict_get (PySem.F.args_dict_get_3 _ _ _) (meetsH_dict_get_default (nestedKind X.prog X.w) a b lo' fv) ⟨roomN hu, nk k, xs', key_is I3.hok hk, dd', ⟨_, H3, I3.tok _, ?_, q3⟩⟩
    rcases rn_look r' k with ⟨i1, i2⟩ | ⟨v', p, i1, i2, i3⟩
    · rw [i1, i2]; exact rz
    · rw [i1, i2]; exact i3
end
end Kw

namespace Kw
open PySem PySem.Spec PyProof.Rows L2

/-! ### the keys of such a dict, one after another (the dict locked) -/
def ItN (P : Program) (w : World) (d : Addr) (o : Obj) (es : List En) : It where
  go := fun i H => H d = some (.frz o (NDo P w d es)) ∧ i < es.length
  yld := fun i H x H' => H' = H ∧ ∃ e, es[i]? = some e ∧ x = .ref e.2.1
  stop := fun i H => H d = some (.frz o (NDo P w d es)) ∧ es.length = i
theorem rn_at {es : List En} {xs : List (NestedKey × Addr × Value)} (r : Paired RN es xs) : ∀ {i : Nat} {x : NestedKey × Addr × Value}, xs[i]? = some x → ∃ e, es[i]? = some e ∧ RN e x := by
  induction r with
  | nil => intro i x h; simp at h
  | cons q t ih =>
    intro i x h
    cases i with
    | zero => simp only [List.getElem?_cons_zero, Option.some.injEq] at h; subst h; exact ⟨_, rfl, q⟩
    | succ j => exact ih (by simpa using h)
/-- a locked dict: its very object -/
theorem nd_frz {X : Cx} {pins : List (Addr × Obj)} {σ : L2.St} {H : Hp} {s : Shared} {d : Addr} {o : Obj} {es : List En} (I : Inv X pins σ H s) (h : H d = some (.frz o (NDo X.prog X.w d es))) :
    (d == sysModules) = false ∧ ∃ des ep, o.data = .dict des ep ∧ s.heap.DictRaw d des ep ∧ des.size = es.length ∧ ∀ i (hi : i < des.size), ∃ e, es[i]? = some e ∧ des[i].key = .ref e.2.1 ∧ RelV (.int e.2.2) des[i].val := by
  obtain ⟨e0, ⟨h1, h2, h3, xs, h4, o', des, ep, h5, h6, h7, h8⟩, _⟩ := (show ObjOk X.prog X.w H s.heap d (.frz o (NDo X.prog X.w d es)) from I.hok d _ h)
  obtain rfl : o = o' := Option.some.inj (e0.symm.trans h5)
  have hs := size_of_entries h8
  have hl : es.length = xs.length := Paired.length h4
  refine ⟨h1, des, ep, h7, ⟨o, h5, h6, h7⟩, by omega, fun i hi => ?_⟩
  have hx : i < xs.length := by omega
  have e1 := entry_at h8 i
  rw [Array.getElem?_eq_getElem hi, List.getElem?_eq_getElem hx, Option.map_some] at e1
  have e2 := Option.some.inj e1
  obtain ⟨e, he, q1, q2, q3⟩ := rn_at h4 (List.getElem?_eq_getElem hx)
  exact ⟨e, he, by rw [e2, ← q2]; rfl, by rw [e2]; exact q3⟩
theorem turn_keysN {P : Program} {w : World} {K : PySem.W.Frag} {tg : Expr} {d : Addr} {o : Obj} {es : List En} {des : Array DictEntry} {ep : Nat} (it : Addr) (hod : o.data = .dict des ep) :
    Turn P w K tg (ItN P w d o es) [it] it (fun i h => h.IsKeyIter it d i des.size ep ∧ d ≠ it) where
  mem := List.mem_singleton_self _
  obj := by
    rintro i h ⟨⟨oi, e, c, dd⟩, _⟩ b hb
    obtain rfl := List.mem_singleton.mp hb
    exact ⟨oi, e, fun v z => by rw [dd] at z; cases z⟩
  keep := fun i h h' st k => ⟨st.1.at fun oi e => k it (by simp) oi e, st.2⟩
  item := by
    intro X hP hw hK hc i pins s σ H E I hf st hg
    subst hP hw hK
    obtain ⟨hd, hi⟩ := hg
    obtain ⟨f0, f1, f2, f3, f4, f5⟩ := hf it (by simp)
    obtain ⟨lo, des', ep', hod', raw, hsz, hen⟩ := nd_frz I hd
    obtain ⟨rfl, rfl⟩ := dict_ep hod hod'
    have W := Goes.rawKeys (prog := X.prog) (w := X.w) (A := X.A) (target := tg) (I.ok.hd hc) it d st.2 des' ep'
    refine wpAny_mono (W.goes i s (fun v s2 => ∃ x H', Inv X pins σ H' s2 ∧ RelV x v ∧ (ItN X.prog X.w d o es).yld i H x H' ∧ (s2.heap.IsKeyIter it d (i + 1) des'.size ep' ∧ d ≠ it) ∧ ∀ b ∈ [it], H' b = none) E (by omega) ⟨st.1, raw⟩ ?_) ?_ fun _ _ z => z
    · rintro v h' tk ⟨hi', rfl⟩ ⟨hit', _⟩ hk htk
      obtain ⟨e, he, hkey, _⟩ := hen i hi'
      refine ⟨.ref e.2.1, H, I.turned (t' := tk) (fun b ob hb q => hk b ob (by simpa using hb) q) f0 f1 f3 f4 f5, hkey, ⟨rfl, e, he, rfl⟩, ⟨hit', st.2⟩, fun b hb => (hf b hb).1⟩
    · rintro r s1 ⟨v, rfl, h2⟩
      exact ⟨v, rfl, h2⟩
  done := by
    intro X hP hw hK hc i pins s σ H E I hf st hg
    subst hP hw hK
    obtain ⟨hd, hi⟩ := hg
    obtain ⟨f0, f1, f2, f3, f4, f5⟩ := hf it (by simp)
    obtain ⟨lo, des', ep', hod', raw, hsz, hen⟩ := nd_frz I hd
    obtain ⟨rfl, rfl⟩ := dict_ep hod hod'
    have W := Goes.rawKeys (prog := X.prog) (w := X.w) (A := X.A) (target := tg) (I.ok.hd hc) it d st.2 des' ep'
    have ei : i = des'.size := by omega
    subst ei
    refine W.stops s (fun s1 => Inv X pins σ H s1) E ⟨st.1, raw⟩ fun h' tk hk htk => ?_
    exact I.turned (t' := tk) (fun b ob hb q => hk b ob (by simpa using hb) q) f0 f1 f3 f4 f5
  self := fun A i s Q E st h => wpAny_pyIter_keyiter st.1 h
def iKeysN (P : Program) (w : World) (td : TE) : TI := fun σ H R => td σ H fun x H1 => ∃ d o es, x = .ref d ∧ H1 d = some (.frz o (NDo P w d es)) ∧ R (ItN P w d o es) H1
theorem pi_keysN {X : Cx} {tg e : Expr} {td : TE} (he : PE X e td) : PI X tg e (iKeysN X.prog X.w td) := by
  constructor
  intro pins s σ H R I h
  refine thn (he.run pins s σ H _ I h) ?_
  rintro u s1 ⟨x, H1, I1, rx, d, o, es, rfl, hd, q⟩
  obtain rfl := rx
  obtain ⟨lo, des, ep, hod, raw, hsz, hen⟩ := nd_frz I1 hd
  have hlt : d < s1.heap.objs.size := by obtain ⟨_, e, _⟩ := raw; exact Heap.lt_size e
  exact wpAny_pyIter_dict_raw lo raw (pi_one (tk := s1.toks) I1 _ (turn_keysN _ hod) ⟨⟨_, Heap.get?_push_size _ rfl, rfl, rfl⟩, Nat.ne_of_lt hlt⟩ q)
theorem walk_keysN {P : Program} {w : World} {d : Addr} {o : Obj} {es : List En} : Walk (ItN P w d o es) es.length (fun H => H d = some (.frz o (NDo P w d es))) (fun i H x H' => H' = H ∧ ∃ e, es[i]? = some e ∧ x = .ref e.2.1) where
  goes := fun i H hi h => ⟨h, hi⟩
  stops := fun H h => ⟨h, rfl⟩
  yields := fun i H x H' _ _ y => y

/-! ### sum(d.values()) -/
def VWo (p d : Addr) : HO := .ext fun h => h.IsValuesView p d
def tValsN (P : Program) (w : World) (td : TE) : TE := fun σ H Q => td σ H fun x H1 => ∃ d es, x = .ref d ∧ ND P w H1 d es ∧ ∀ p, H1 p = none → Q (.ref p) (upd H1 p (VWo p d))
theorem pe_valuesN {X : Cx} {e : Expr} {td : TE} {apos cpos : Pos} (he : PE X e td) (hbase : attributeBase e "values" X.env (eval e X.env) = eval e X.env := by rfl) (hline : (apos.endLine == cpos.line) = true := by rfl) :
    PE X (.Call (.Attribute e "values" apos) [] [] cpos) (tValsN X.prog X.w td) := by
  constructor
  intro pins s σ H Q I h
  refine wpAny_Call_method (T := "dict") (id := "dict.values") hbase rfl hline F.plainAttrs_dict F.slot_dict_values F.type_dict_values (thn (he.run pins s σ H _ I h) ?_)
  rintro u s1 ⟨x, H1, I1, rx, d, es, rfl, hd, q⟩
  obtain rfl := rx
  obtain ⟨lo, _, _, xs, r, dd⟩ := nd_of I1.hok hd
  obtain ⟨des, ep, raw, _⟩ := dd.raw
  refine ⟨dd.typeIs, fun b' e' => ?_, ?_⟩
  · cases e'
    obtain ⟨ob, _, _, h1, h2, _⟩ := dd
    exact ⟨ob, h1, h2.2.1⟩
  · show wpAny _ _ (callWith cpos (.builtin "dict.values") [.ref d] [] []) _ X.xe s1
    refine method_meetsIn F.slot_dict_values F.entry_dict_values rfl (PySem.evalArgs_none ⟨rfl, dd.typeIs, F.args_dict_values_1 _, _, meets_dict_values_raw d lo, ⟨des, ep, raw⟩, ?_⟩)
    refine ⟨.ref s1.heap.objs.size, _, I1.laid (a := s1.heap.objs.size) (o := VWo s1.heap.objs.size d) (t' := s1.toks) (fun _ _ z => Heap.get?_push_of_some _ z) (Nat.le_refl _) ?_, rfl, q _ (I1.hok.fresh (Nat.le_refl _))⟩
    have hv : (s1.heap.push { cls := .type "dict_values", data := .fields #[.ref d] }).IsValuesView s1.heap.objs.size d := ⟨_, Heap.get?_push_size _ rfl, rfl, rfl⟩
    exact ⟨hv, ⟨_, Heap.get?_push_size _ rfl⟩, fun h1 h2 y k => let ⟨o, z1, z2⟩ := y; ⟨o, k o z1, z2⟩⟩
def rSumVN (P : Program) (w : World) : List V → Hp → VK → Prop := fun vs H Q => ∃ p d es, vs = [.ref p] ∧ H p = some (VWo p d) ∧ ND P w H d es ∧ Q (.int (es.map (·.2.2)).sum) H
theorem preSum_list (l : List Int) (f : Nat → Int) (hf : ∀ i, i < l.length → some (f i) = l[i]?) : preSum f l.length = l.sum := by
  have go : ∀ n, n ≤ l.length → preSum f n = (l.take n).sum := by
    intro n
    induction n with
    | zero => intro _; rfl
    | succ n ih =>
      intro hn
      show preSum f n + f n = _
      rw [ih (by omega), sum_take (hf n (by omega)).symm]
  rw [go l.length (Nat.le_refl _), List.take_length]
theorem cr_sumVN {X : Cx} (hc : X.calm = true) : CallR X (.builtin "sum") (rSumVN X.prog X.w) := by
  intro pins s σ H vs us Q I r h
  obtain ⟨p, d, es, rfl, hp, hd, q⟩ := h
  rw [Vals.ref1 r]
  obtain ⟨hv, _, _⟩ := (show ObjOk X.prog X.w H s.heap p (VWo p d) from I.hok p _ hp)
  obtain ⟨lo, hz, hn, xs, rr, dd⟩ := nd_of I.hok hd
  obtain ⟨des, ep, raw, hsz, hen⟩ := dd.raw
  have hl : es.length = xs.length := Paired.length rr
  have hlt : d < s.heap.objs.size := by obtain ⟨_, e, _⟩ := raw; exact Heap.lt_size e
  refine call_sum_walkAnyS (wpAny_pyIter_values_raw hv raw ?_)
  have hI : ({ cls := .type "dict_valueiterator", data := .fields #[.ref d, .int 0 0, .int des.size 0, .int ep 0] } : Obj).isFreed = false := rfl
  refine ⟨s.heap.objs.size, _, _, _, des.size, _, _, fun i => ((es.map (·.2.2))[i]?).getD 0, rfl, (Walks.rawValues (prog := X.prog) (w := X.w) (A := X.A.in1) (I.ok.hd hc) s.heap.objs.size d (Nat.ne_of_lt hlt) des ep).toS, ⟨⟨_, Heap.get?_push_size _ rfl, rfl, rfl⟩, raw.at fun o e => Heap.get?_push_of_some _ e⟩, ?_, ?_, ?_⟩
  · intro b hb
    show b < (s.heap.push _).objs.size
    rw [Heap.size_push]
    rcases List.mem_cons.mp hb with rfl | hb
    · exact Nat.lt_succ_self _
    · rw [List.mem_singleton.mp hb]; exact Nat.lt_succ_of_lt hlt
  · rintro i v ⟨hi, rfl⟩
    obtain ⟨y, h1, _, h2, _⟩ := hen i hi
    obtain ⟨e, he, _, _, rv⟩ := rn_at rr h1
    obtain ⟨t, et⟩ := rv
    refine ⟨t, ?_⟩
    rw [h2, et]
    show Value.int e.2.2 t = Value.int (((es.map (·.2.2))[i]?).getD 0) t
    rw [List.getElem?_map, he]
    rfl
  · intro s' t' hm
    have hk : ∀ b o, s.heap.get? b = some o → s'.heap.get? b = some o := fun b o e => hm.heap b o (fun hb => absurd (Heap.lt_size e) (by rw [List.mem_singleton.mp hb]; exact Nat.lt_irrefl _)) (Heap.get?_push_of_some _ e)
    have e : s' = { s with heap := s'.heap, toks := s'.toks } := by
      obtain ⟨h', g', d', tk', os'⟩ := s'
      have e1 : g' = s.gens := hm.gens
      have e2 : d' = s.drawn := hm.drawn
      have e3 : os' = s.os := hm.os
      subst e1 e2 e3
      rfl
    rw [e]
    have es' : preSum (fun i => ((es.map (·.2.2))[i]?).getD 0) des.size = (es.map (·.2.2)).sum := by
      have e1 : des.size = (es.map (·.2.2)).length := by rw [List.length_map]; omega
      rw [e1]
      refine preSum_list _ _ fun i hi => ?_
      rw [List.getElem?_eq_getElem hi]
      rfl
    rw [es']
    exact ⟨.int _, H, I.kept (t' := s'.toks) hk, ⟨t', rfl⟩, q⟩
end Kw

namespace Kw
open PySem PySem.Spec PyProof.Rows L2

/-! ### {k: v for .. in ..}, k an (int, (int, int)), v an int -/
section
variable {X : Cx}
theorem nd_dictSet {pins : List (Addr × Obj)} {σ : L2.St} {H : Hp} {s : Shared} {E : Value → Shared → Prop} {D b : Addr} {es : List En} {k : K3} {n : Int} {u r : Value} {Q : Unit → Shared → Prop} (hu : X.A.units + 64 < cLine) (I : Inv X pins σ H s)
    (hD : NDm X.prog X.w H D es) (hk : KeyAt H b k) (hz : es.length < sizeLine) (ry : RelV (.ref b) u) (rv : RelV (.int n) r) (h : ∀ s', Inv X pins σ (upd H D (NDo X.prog X.w D (nput es k b n))) s' → Q () s') : wpAny (model X.prog X.w) X.A (dictSet D u r) Q E s := by
  obtain rfl := ry
  obtain ⟨lo, hz', hn, xs, rr, dd⟩ := nd_of I.hok hD.nd
  have hxl : xs.length = es.length := (Paired.length rr).symm
  refine wpAny_dictSet_heap (hsz := by omega) (knd := nestedKind X.prog X.w) ?_ (key_is I.hok hk) dd fun h' dd' hs => h _ (nd_store (t' := _) I hD hz lo hn rr rv dd' hs)
  show X.A.units + 8 < cLine
  omega
def tDcN (P : Program) (w : World) (wi : TI) (g : TG) (tk tv : TE) (vs : List Nat) : TE := fun σ H Q => wi σ H fun J H1 => ∀ D, H1 D = none → ∃ W : Nat → Nat → Hp → Prop, (∃ m, W 0 m (upd H1 D (NDo P w D []))) ∧ ∀ i m H, W i m H →
  (J.stop i H ∧ Q (.ref D) H) ∨ (J.go i H ∧ ∃ Nx : Hp → Prop, (∀ H', Nx H' → ∃ m', m' < m ∧ W (i + 1) m' H') ∧ ∀ x H', J.yld i H x H' → g x (wipe σ vs) H' fun σ2 H2 => wipe σ2 vs = wipe σ vs ∧
    tk σ2 H2 fun y H4 => tv σ2 H4 fun z H5 => ∃ es k b n, y = .ref b ∧ z = .int n ∧ NDm P w H5 D es ∧ KeyAt H5 b k ∧ es.length < sizeLine ∧ Nx (upd H5 D (NDo P w D (nput es k b n))))
theorem dcN_core {pins : List (Addr × Obj)} {s : Shared} {σ : L2.St} {H : Hp} {Q : VK} {kx vx tg iter : Expr} {scope : Scope} {own : List (Str × Nat)} {pos pos' : Pos} {wi : TI} {g : TG} {tk tv : TE} {use : Option (Value → Sem Unit)} {Qf : Value → Shared → Prop}
    (hu : X.A.units + 64 < cLine) (hc : X.calm = true) (hN : X.N.Nodup) (I : Inv X pins σ H s) (hi : PI X tg iter wi) (ok : BlkOk X.N X.env.scope scope own)
    (hg : ∀ (s : Shared) (H : Hp) (C : Addr) (cl : List (Str × Addr)) (fp : List Addr), PG (X.blk s H scope (compEnvC scope cl C X.env) fp) tg g)
    (hk : ∀ (s : Shared) (H : Hp) (C : Addr) (cl : List (Str × Addr)) (fp : List Addr), PE (X.blk s H scope (compEnvC scope cl C X.env) fp) kx tk)
    (he : ∀ (s : Shared) (H : Hp) (C : Addr) (cl : List (Str × Addr)) (fp : List Addr), PE (X.blk s H scope (compEnvC scope cl C X.env) fp) vx tv) (hs : ∀ x, foldedSetIterable iter X.env x = pure x)
    (h : tDcN X.prog X.w wi g tk tv (own.map (·.2)) σ H Q)
    (hRR : ∀ D C s' m H', Inv X pins σ H' s' → Q (.ref D) H' → s'.heap.Ns C m → FpOk X pins H' C → compPost (model X.prog X.w) X.A X.xe use Qf (.ref D) C (.ok .next) s') :
    wpAny (model X.prog X.w) X.A (comprehension (.DictComp kx vx [⟨tg, iter, [], 0⟩] scope pos) scope X.env pos' newDict false (eval iter X.env) use) Qf X.xe s := by
  have hfree : ∀ y ∈ scope.names, y.2 = .free → ∃ c, X.env.cells.lookup y.1 = some c := by
    intro y hy e
    rcases ok.free y hy e with k | k
    · exact I.ok.has _ (.inl k)
    · exact I.ok.has _ (.inr k)
  refine wpAny_comprehension_free (use := use) rfl hs (closure_ok hfree) ok.kind (fun y hy e => by rw [ok.uniq y hy, e]) (thn (hi.run pins s σ H _ I h) fun xv s1 hx => thn hx ?_)
  rintro _ s2 ⟨it, fp, tn, J, H2, rfl, I2, T, st2, f2, q⟩
  refine wpAny_newObj_type (newEnv_comp ?_)
  generalize hD : s2.heap.objs.size = D
  have hDn : H2 D = none := I2.hok.fresh (Nat.le_of_eq hD)
  obtain ⟨W, ⟨m0, w0⟩, turn⟩ := q D hDn
  -- the new dict is laid
  generalize hs3 : ({ s2 with heap := s2.heap.push { cls := .type "dict", data := .dict #[] } } : Shared) = s3
  have h3 : s3.heap = s2.heap.push { cls := .type "dict", data := .dict #[] } := by rw [← hs3]
  have I3 : Inv X pins σ (upd H2 D (NDo X.prog X.w D [])) s3 := by
    rw [← hs3]
    refine I2.laid (t' := s2.toks) (fun b o e => Heap.get?_push_of_some _ e) (Nat.le_of_eq hD) ?_
    rw [← hD]
    exact (nd_empty s2.heap I2.big).ok
  have sz : ∀ b ∈ fp, b < s2.heap.objs.size := by
    intro b hb
    obtain ⟨o, e, _⟩ := T.obj _ _ st2 b hb
    exact Heap.lt_size e
  generalize hH3 : upd H2 D (NDo X.prog X.w D []) = H3 at I3 w0
  have f3 : ∀ b ∈ fp, FpOk X pins H3 b ∧ b < s3.heap.objs.size := by
    intro b hb
    have hlt := sz b hb
    refine ⟨⟨?_, (f2 b hb).2⟩, by rw [h3, Heap.size_push]; exact Nat.lt_succ_of_lt hlt⟩
    rw [← hH3, upd_ne (by rw [← hD]; exact Nat.ne_of_lt hlt)]
    exact (f2 b hb).1
  have st3 : tn 0 s3.heap := T.keep _ _ _ st2 fun b _ o e => by rw [h3]; exact Heap.get?_push_of_some _ e
  have I4 := block_start I3 ok hN f3
  have pg := hg s3 H3 s3.heap.objs.size (cellsFrom (s3.heap.objs.size + 1) scope.names (cloFrom X.env.cells scope.names [])) fp
  have pk := hk s3 H3 s3.heap.objs.size (cellsFrom (s3.heap.objs.size + 1) scope.names (cloFrom X.env.cells scope.names [])) fp
  have pe := he s3 H3 s3.heap.objs.size (cellsFrom (s3.heap.objs.size + 1) scope.names (cloFrom X.env.cells scope.names [])) fp
  have hu' : ∀ (ce : Env), (X.blk s3 H3 scope ce fp).A.units + 64 < cLine := fun _ => hu
  show codeAny _ _ (.compStart (.DictComp kx vx [⟨tg, iter, [], 0⟩] scope pos) 0 (.ref it) (.ref D) (compEnvC scope (cellsFrom (s3.heap.objs.size + 1) scope.names (cloFrom X.env.cells scope.names [])) s3.heap.objs.size X.env)) (compPost (model X.prog X.w) X.A X.xe use Qf (.ref D) s3.heap.objs.size) { s3 with heap := pushCells (s3.heap.push { cls := .type "dict", data := .dict #[] }) scope.names }
  generalize hce : compEnvC scope (cellsFrom (s3.heap.objs.size + 1) scope.names (cloFrom X.env.cells scope.names [])) s3.heap.objs.size X.env = ce at I4 pg pk pe ⊢
  have cL : ce.locals = s3.heap.objs.size := by subst hce; rfl
  have nfp : ∀ b ∈ fp, H3 b = none := fun b hb => (f3 b hb).1.1
  generalize hs4 : ({ s3 with heap := pushCells (s3.heap.push { cls := .type "dict", data := .dict #[] }) scope.names } : Shared) = s4 at I4 ⊢
  have st4 : tn 0 s4.heap := T.keep _ _ _ st3 fun b _ o e => by rw [← hs4]; exact pushCells_keeps _ _ _ _ (Heap.get?_push_of_some _ e)
  have stat : ∀ {σ' : L2.St} {H' : Hp} {s' : Shared}, Inv (X.blk s3 H3 scope ce fp) [] σ' H' s' → (∀ b ∈ fp, H' b = none) → ∀ b ∈ fp, FpOk (X.blk s3 H3 scope ce fp) [] H' b := by
    intro σ' H' s' I' hn b hb
    exact ⟨hn b hb, (I'.ok.exf b hb).1, I'.ok.exfs b hb, .inl hb, fun x c e => (I'.ok.exf b hb).2 x c e, fun p hp => absurd (show p ∈ ([] : List (Addr × Obj)) ++ [] from hp) (by simp)⟩
  have loop : codeAny (model X.prog X.w) X.A (.compLoop (.DictComp kx vx [⟨tg, iter, [], 0⟩] scope pos) 0 (.ref it) (.ref D) ce) (compPost (model X.prog X.w) X.A X.xe use Qf (.ref D) s3.heap.objs.size) s4 := by
    refine compLoop_anyD (fun n s' => ∃ i H', Inv (X.blk s3 H3 scope ce fp) [] (wipe σ (own.map (·.2))) H' s' ∧ tn i s'.heap ∧ (∀ b ∈ fp, H' b = none) ∧ W i n H') ?_ m0 ⟨0, H3, I4, st4, nfp, w0⟩
    rintro n s5 ⟨i, H5, I5, st5, n5, w5⟩
    rcases turn i n H5 w5 with ⟨stop, qq⟩ | ⟨go, Nx, hNx, step⟩
    · refine thnF (T.done (X.blk s3 H3 scope ce fp) rfl rfl rfl hc i [] s5 _ H5 (fun _ _ => False) I5 (stat I5 n5) st5 stop) ?_
      rintro _ s6 ⟨rfl, I6⟩
      have I7 : Inv X pins σ H5 s6 := I3.call' (ch := fp) I6.os I6.base I6.hok I6.bare fun b hb => ⟨(f3 b hb).1.2.2.2.1, (f3 b hb).1.2.1, (f3 b hb).1.2.2.2.2.1, (f3 b hb).1.2.2.2.2.2⟩
      have nC : H5 s3.heap.objs.size = none := cL ▸ (show H5 ce.locals = none from I6.free)
      obtain ⟨m, hn, _⟩ := I6.loc
      have hn : s6.heap.Ns ce.locals m := hn
      rw [cL] at hn
      exact hRR D s3.heap.objs.size s6 m H5 I7 qq hn (I3.fpOk (Nat.le_refl _) nC)
    · refine thnF (T.item (X.blk s3 H3 scope ce fp) rfl rfl rfl hc i [] s5 _ H5 (fun _ _ => False) I5 (stat I5 n5) st5 go) ?_
      rintro _ s6 ⟨u, rfl, h6⟩
      refine thnF h6 ?_
      rintro _ s7 ⟨x, H7, I7, r7, y7, st7, n7⟩
      have I7' := I7.pinned (stat I7 n7) (T.obj _ _ st7)
      refine thnF (pg.run _ s7 _ H7 x u _ I7' r7 (step x H7 y7)) ?_
      rintro _ s8 ⟨σ8, H8, I8, hw8, q8⟩
      refine thnF ((pts_nil (X := X.blk s3 H3 scope ce fp)).run _ s8 σ8 H8 (fun b H9 => b = true ∧ H9 = H8) I8 ⟨rfl, rfl⟩) ?_
      rintro _ s9 ⟨H9, I9, rfl, rfl⟩
      simp only [if_true]
      refine thnF (pk.run _ s9 σ8 _ _ I9 q8) ?_
      rintro z s10 ⟨yk, H10, I10, r10, q10⟩
      refine thnF (pe.run _ s10 σ8 H10 _ I10 q10) ?_
      rintro z2 s11 ⟨yv, H11, I11, r11, es, k, b, v, rfl, rfl, hD11, hk11, hz11, nx⟩
      refine nd_dictSet (X := X.blk s3 H3 scope ce fp) (hu' ce) I11 hD11 hk11 hz11 r10 r11 fun s12 I12 => ?_
      obtain ⟨m', hm, w'⟩ := hNx _ nx
      have pin : ∀ c ∈ fp, ∀ o, s7.heap.get? c = some o → s12.heap.get? c = some o ∧ upd H11 D (NDo X.prog X.w D (nput es k b v)) c = none := fun c hc' o e =>
        let z := I12.pin (c, o) (List.mem_append_right _ (List.mem_append_right _ (mem_pinsAt hc' e)))
        ⟨z.1, z.2.1⟩
      have hl : (wipe σ (own.map (·.2))).length = σ8.length := by rw [← hw8, wipe_length]
      refine ⟨m', hm, i + 1, _, (I12.unpinned (pins := [])).weak hl (fun j v' e => ?_), T.keep _ _ _ st7 fun c hc' o e => (pin c hc' o e).1, fun c hc' => ?_, w'⟩
      · rw [← hw8] at e
        exact (wipe_some e).1
      · obtain ⟨o, e, _⟩ := T.obj _ _ st7 c hc'
        exact (pin c hc' o e).2
  exact codeAny_compStart_dict loop (T.self X.A 0 _ _ _ st4 loop)
theorem pe_dcN {kx vx tg iter : Expr} {scope : Scope} {own : List (Str × Nat)} {pos : Pos} {wi : TI} {g : TG} {tk tv : TE} (hu : X.A.units + 64 < cLine) (hc : X.calm = true) (hN : X.N.Nodup) (hi : PI X tg iter wi) (ok : BlkOk X.N X.env.scope scope own)
    (hg : ∀ (s : Shared) (H : Hp) (C : Addr) (cl : List (Str × Addr)) (fp : List Addr), PG (X.blk s H scope (compEnvC scope cl C X.env) fp) tg g)
    (hk : ∀ (s : Shared) (H : Hp) (C : Addr) (cl : List (Str × Addr)) (fp : List Addr), PE (X.blk s H scope (compEnvC scope cl C X.env) fp) kx tk)
    (he : ∀ (s : Shared) (H : Hp) (C : Addr) (cl : List (Str × Addr)) (fp : List Addr), PE (X.blk s H scope (compEnvC scope cl C X.env) fp) vx tv) (hs : ∀ x, foldedSetIterable iter X.env x = pure x := by intro _; rfl) :
    PE X (.DictComp kx vx [⟨tg, iter, [], 0⟩] scope pos) (tDcN X.prog X.w wi g tk tv (own.map (·.2))) := by
  constructor
  intro pins s σ H Q I h
  rw [arm_eval_DictComp]
  refine dcN_core hu hc hN I hi ok hg hk he hs h ?_
  rintro D C s' m H' I' q hn ⟨f0, f1, f2, f3, f4, f5⟩
  exact ⟨m, hn, fun h'' sb => ⟨.ref D, H', I'.turned (t' := s'.toks) (fun b o hb e => (sb.2 b hb).trans e) f0 f1 f3 f4 f5, rfl, q⟩⟩
/-- name = {..}, on one line, the name the def's own -/
theorem ps_setDcN {i : Nat} {y : Str} {py : Pos} {kx vx tg iter : Expr} {scope : Scope} {own : List (Str × Nat)} {pos spos : Pos} {wi : TI} {g : TG} {tk tv : TE} (hu : X.A.units + 64 < cLine) (hc : X.calm = true) (hN : X.N.Nodup) (hy : X.N[i]? = some y) (hyl : X.env.scope.names.lookup y = some .local)
    (hsw : swapsWith (.DictComp kx vx [⟨tg, iter, [], 0⟩] scope pos) (some (.Name y py)) spos.line X.env = pure true) (hi : PI X tg iter wi) (ok : BlkOk X.N X.env.scope scope own)
    (hg : ∀ (s : Shared) (H : Hp) (C : Addr) (cl : List (Str × Addr)) (fp : List Addr), PG (X.blk s H scope (compEnvC scope cl C X.env) fp) tg g)
    (hk : ∀ (s : Shared) (H : Hp) (C : Addr) (cl : List (Str × Addr)) (fp : List Addr), PE (X.blk s H scope (compEnvC scope cl C X.env) fp) kx tk)
    (he : ∀ (s : Shared) (H : Hp) (C : Addr) (cl : List (Str × Addr)) (fp : List Addr), PE (X.blk s H scope (compEnvC scope cl C X.env) fp) vx tv) (hs : ∀ x, foldedSetIterable iter X.env x = pure x := by intro _; rfl) :
    PS X (.Assign [.Name y py] (.DictComp kx vx [⟨tg, iter, [], 0⟩] scope pos) spos) (tAsg (tDcN X.prog X.w wi g tk tv (own.map (·.2))) (gName i)) := by
  constructor
  intro pins s σ H D I h
  rw [exec_Assign_Name_used _ _ _ _ hsw]
  refine wpAny_bind (wpAny_standAt (wpAny_bind ?_))
  show wpAny _ X.A (do let _ ← comprehension (.DictComp kx vx [⟨tg, iter, [], 0⟩] scope pos) scope X.env (firstIterPos [⟨tg, iter, [], 0⟩] pos) newDict false (eval iter X.env) (some (assign (.Name y py) X.env))) _ _ s
  have h : tDcN X.prog X.w wi g tk tv (own.map (·.2)) σ H (fun x H1 => gName i x σ H1 D.nx) := h
  refine wpAny_bind (thn (dcN_core (Qf := fun _ s' => SP X pins D .next s') hu hc hN I hi ok hg hk he hs h ?_) fun _ s' hq => wpAny_pure (wpAny_pure hq))
  rintro L C s' m H' I' q hn ⟨f0, f1, f2, f3, f4, f5⟩
  show wpAny _ _ (assign (.Name y py) X.env (.ref L)) _ _ _
  refine wpAny_assign_Name (store_ok2 (v := V.ref L) I' hN hy (.inl hyl) rfl ?_ (.inr hyl))
  rintro s2 I2 ⟨a, sb, ha⟩
  have haC : C ≠ a := by
    rcases ha with z | z
    · rw [z]; exact f1
    · exact fun e => f4 y a z e.symm
  exact ⟨m, hn.sameBut sb haC, fun h3 sb3 => ⟨_, H', I2.turned (t' := s2.toks) (fun b o hb e => (sb3.2 b hb).trans e) f0 f1 f3 f4 f5, q⟩⟩
theorem sw_dict {kx vx : Expr} {gs : List Comprehension} {scope : Scope} {pos py : Pos} {y : Str} {l : Nat} {env : Env} (hk : env.scope.kind = .function) (hy : env.scope.names.lookup y = some .local) (hl : (py.line == pos.line) = true)
    (ha : (scope.names.any fun (n, k) => n == y && (k == .local || k == .cell)) = false) : swapsWith (.DictComp kx vx gs scope pos) (some (.Name y py)) l env = pure true := by
  have ky : env.kindOf y = some .local := hy
  have hb : env.blockKind = .function := by unfold Env.blockKind; rw [hk]; rfl
  unfold swapsWith
  simp only [hb, ky, ha, Expr.pos, hl]
  rfl
end
end Kw

namespace Kw
open PySem PySem.Spec PyProof.Rows L2

/-! ### d.update(d2), keys ints and texts -/
def rUpdate : V → List V → Hp → VK → Prop := fun x xs H Q => ∃ d o kvs more, x = .ref d ∧ xs = [.ref o] ∧ d ≠ o ∧ H d = some (.dK kvs) ∧ Rd H o (.dK more) ∧ kvs.length + more.length ≤ sizeLine ∧ Q .non (upd H d (.dK (mergeK kvs more)))
theorem mt_update {X : Cx} : MtR X "dict.update" rUpdate := by
  intro pins s σ H x xs v us Q I rx rs h
  obtain ⟨d, o, kvs, more, rfl, rfl, hne, hd, ho, hz, q⟩ := h
  obtain rfl := rx
  obtain ⟨u, rfl, ru⟩ := vals1 rs
  obtain rfl := ru
  obtain ⟨z, hs, vs, rel, dd⟩ := dk_of I.hok hd
  obtain ⟨z2, hs2, ws, rel2, dd2⟩ := dk_rd I.hok ho
  refine call_meetsIn PySem.F.slot_dict_update dd.typeIs PySem.F.entry_dict_update (PySem.F.args_dict_update_2 _ _) (meets_dict_update (mixKind X.prog X.w) d o hne hs2) ⟨vs, ws, dd, dd2, by rw [← rel.length, ← rel2.length]; exact hz, fun h' dd' _ sb => ?_⟩
  refine ⟨.non, _, d_write (t' := s.toks) I (by rw [hd]; exact True.intro) sb ?_ (dk_new ?_ hs (rel2.merge rel) dd'), rfl, q⟩
  · obtain ⟨ob, _, _, hq, _⟩ := dd'
    exact ⟨ob, hq⟩
  · exact Nat.le_trans (length_mergeK more kvs) hz

/-! ### {k: v}, k a tuple of ints and texts -/
def tDisp1T (tk tv : TE) : TE := fun σ H Q => ∀ p, H p = none → tPairs [(tk, tv)] σ (upd H p (.dT [])) fun ps H2 => ∃ (ks : List Key) (b : Addr) (z : V), ps = [(.ref b, z)] ∧ H2 b = some (.tup (ks.map kV)) ∧ H2 p = some (.dT []) ∧ Q (.ref p) (upd H2 p (.dT [(ks, z)]))
theorem pe_disp1T {X : Cx} {pos : Pos} {k v : Expr} {tk tv : TE} (hu : X.A.units + 1 < cLine) (hk : PE X k tk) (hv : PE X v tv) : PE X (.Dict [some k] [v] pos) (tDisp1T tk tv) := by
  constructor
  intro pins s σ H Q I q
  have hn := I.hok.fresh (Nat.le_refl s.heap.objs.size)
  have I1 := I.laid (a := s.heap.objs.size) (o := .dT []) (h' := s.heap.push { cls := .type "dict", data := .dict #[] }) (t' := s.toks) (fun _ _ q => Heap.get?_push_of_some _ q) (Nat.le_refl _) (dt_empty s.heap I.big)
  have PP : PPs X pos [some k] [v] [(tk, tv)] := pps_cons hk hv pps_nil
  rw [arm_eval_Dict, zip_pairTrees [some k] [v] X.env pos rfl rfl, dictDisplay_pairs (pairTrees [some k] [v] X.env pos) (by intro z; cases z) (by show 1 < 17; decide)]
  refine wpAny_bind (wpAny_standAt (wpAny_bind (wpAny_subDictH (knd := tupleKind (mixKind X.prog X.w)) (Q := fun d s' => wpAny (model X.prog X.w) X.A (pure (Value.ref d)) (EP X pins σ Q) X.xe s') (show X.A.units < cLine by omega) (by show 1 ≤ 15; decide) ?_)))
  refine thn (PP.run pins _ σ _ _ I1 (q _ hn)) ?_
  rintro ws s2 ⟨ps, H2, I2, rel, ks, b, z, rfl, hb, hp, q2⟩
  cases rel with
  | cons h1 h2 =>
    cases h2
    rename_i wv
    obtain ⟨w1, w2⟩ := wv
    obtain ⟨r1, r2⟩ := h1
    obtain rfl : w1 = Value.ref b := r1
    obtain ⟨zl, hd, xs0, rel0, dd⟩ := dt_of I2.hok hp
    cases rel0
    refine ⟨[(ks, b, w2)], ⟨rfl, rfl, key_of I2.hok hb, trivial⟩, dd, fun h' tk dd' sb => wpAny_pure ?_⟩
    obtain ⟨ob, es, ep, hq, g2, g3, g4, _, g5⟩ := dd'
    refine ⟨.ref s.heap.objs.size, _, d_write (t' := tk) I2 (by rw [hp]; exact True.intro) sb ⟨ob, hq⟩ (ob := .dT [(ks, z)]) ⟨by show 1 ≤ sizeLine; decide, hd, [(ks, b, w2)], .cons ⟨rfl, ?_, r2⟩ .nil, ob, es, ep, hq, g2, g3, g4, g5⟩, rfl, q2⟩
    rw [upd_ne (ne_of hb hp (fun z => nomatch z))]
    exact hb
end Kw

namespace Kw
open PySem PySem.Spec PyProof.Rows L2 Evl

/-! ### what is walked: its items, told once -/
def EvI (K : PySem.W.Frag) (wi : TI) (σ : L2.St) (H : Hp) (xs : List V) : Prop :=
  ∀ H1, Ex H H1 → ∀ R : It → Hp → Prop, (∀ J H2, Ex H1 H2 → (∃ G : Hp → Prop, Walk J xs.length G (YAt xs) ∧ ∀ H3, Ex H2 H3 → G H3) → R J H2) → wi σ H1 R
section
variable {K : PySem.W.Frag} {σ : L2.St} {H H' : Hp} {te : TE} {xs : List V}
theorem EvI.mono {wi : TI} (e : Ex H H') (h : EvI K wi σ H xs) : EvI K wi σ H' xs := fun H1 e1 R q => h H1 (e.trans e1) R q
theorem ei_list {a : Addr} (h : Ev te σ H (.ref a)) (hx : SqL K H a xs) : EvI K (iList K te) σ H xs := fun H1 e R q => h H1 e _ fun H2 e2 => ⟨a, rfl, ⟨xs, ex_l (e.trans e2) hx⟩, q _ _ e2 ⟨_, walk_list, fun H3 e3 => ex_l ((e.trans e2).trans e3) hx⟩⟩
theorem ei_listN (h : EvL te σ H xs) : EvI K (iList K te) σ H xs := fun H1 e R q => h H1 e _ fun p H2 _ e2 hp => ⟨p, rfl, ⟨xs, sq_of hp⟩, q _ _ e2 ⟨_, walk_list, fun H3 e3 => ex_l e3 (sq_of hp)⟩⟩
theorem ei_tup {a : Addr} (h : Ev te σ H (.ref a)) (hx : SqT K H a xs) : EvI K (iTup K te) σ H xs := fun H1 e R q => h H1 e _ fun H2 e2 => ⟨a, rfl, ⟨xs, ex_t (e.trans e2) hx⟩, q _ _ e2 ⟨_, walk_tup, fun H3 e3 => ex_t ((e.trans e2).trans e3) hx⟩⟩
/-- the ints lo, lo + 1, .. -/
def vInts (lo : Int) (n : Nat) : List V := (List.range n).map fun i => .int (lo + (i : Nat))
theorem vInts_len (lo : Int) (n : Nat) : (vInts lo n).length = n := by unfold vInts; rw [List.length_map, List.length_range]
theorem vInts_at {lo : Int} {n i : Nat} (h : i < n) : (vInts lo n)[i]? = some (.int (lo + (i : Nat))) := by
  unfold vInts
  rw [List.getElem?_map, List.getElem?_range h]
  rfl
theorem walk_vInts {lo : Int} {n : Nat} : Walk (Itr lo n) (vInts lo n).length (fun _ => True) (YAt (vInts lo n)) := by
  rw [vInts_len]
  exact walk_range.mono (fun _ _ => trivial) fun i H x H' hi _ y => ⟨y.1, by rw [vInts_at hi, y.2]⟩
theorem ei_rng1 {ta : TA} {n : Int} (h : EvA ta σ H [.int n]) (hn : n ≤ 2 ^ 61) (hm : -(2 ^ 61) ≤ n) : EvI K (iRng1 ta) σ H (vInts 0 n.toNat) := fun H1 e R q => h H1 e _ fun H2 e2 => ⟨n, rfl, by omega, by omega, q _ _ e2 ⟨_, walk_vInts, fun _ _ => trivial⟩⟩
theorem ei_rng2 {ta : TA} {lo n : Int} (h : EvA ta σ H [.int lo, .int n]) (h1 : -(2 ^ 61) ≤ lo) (h2 : lo ≤ 2 ^ 61) (h3 : -(2 ^ 61) ≤ n) (h4 : n ≤ 2 ^ 61) : EvI K (iRng2 ta) σ H (vInts lo (n - lo).toNat) := fun H1 e R q => h H1 e _ fun H2 e2 =>
  ⟨lo, n, rfl, ⟨by omega, by omega, by omega, by omega⟩, q _ _ e2 ⟨_, walk_vInts, fun _ _ => trivial⟩⟩
/-- the signs of a text -/
def signs (z : Str) : List V := z.cps.toList.map fun c => .str ⟨#[c]⟩
theorem signs_len (z : Str) : (signs z).length = z.cps.size := by unfold signs; rw [List.length_map, Array.length_toList]
theorem walk_signs {z : Str} : Walk (Its z) (signs z).length (fun _ => True) (YAt (signs z)) := by
  rw [signs_len]
  refine walk_str.mono (fun _ _ => trivial) fun i H x H' hi _ y => ?_
  obtain ⟨e1, c, e2, e3⟩ := y
  refine ⟨e1, ?_⟩
  unfold signs
  rw [List.getElem?_map, Array.getElem?_toList, e2, e3]
  rfl
theorem ei_str {z : Str} (h : Ev te σ H (.str z)) : EvI K (iStr te) σ H (signs z) := fun H1 e R q => h H1 e _ fun H2 e2 => ⟨z, rfl, q _ _ e2 ⟨_, walk_signs, fun _ _ => trivial⟩⟩

/-! ### a list comprehension whose parts are values -/
theorem take_snoc {α : Type} : ∀ {l : List α} {i : Nat} {x : α}, l[i]? = some x → l.take (i + 1) = l.take i ++ [x]
  | [], i, x, h => by simp at h
  | a :: l, 0, x, h => by simp only [List.getElem?_cons_zero, Option.some.injEq] at h; subst h; rfl
  | a :: l, i + 1, x, h => by
    have ih := take_snoc (l := l) (i := i) (x := x) (by simpa using h)
    rw [List.take_succ_cons, ih, List.take_succ_cons, List.cons_append]
theorem el_lc {α : Type} {wi : TI} {tt : TT} {j : Nat} {vs : List Nat} (as : List α) (item : α → V) (p : α → Bool) (g : α → V) (hi : EvI K wi σ H (as.map item)) (hz : as.length ≤ sizeLine) (hw : ∀ x, wipe ((wipe σ vs).set j (some x)) vs = wipe σ vs)
    (ht : ∀ a ∈ as, ∀ H1, Ex H H1 → EvT tt ((wipe σ vs).set j (some (item a))) H1 (p a)) (he : ∀ a ∈ as, p a = true → ∀ H1, Ex H H1 → Ev te ((wipe σ vs).set j (some (item a))) H1 (g a)) :
    EvL (tLc wi (gName j) tt te vs) σ H ((as.filter p).map g) := fun H0 e Q q => hi H0 e _ fun J H1 e1 ⟨G, W, hG⟩ D hD => by
  refine lc_it W (fun i H' => Ex H1 H' ∧ H' D = some (.lst (((as.take i).filter p).map g))) ⟨Ex.new hD, upd_same⟩ (fun i H' _ p => hG H' p.1) ?_ (fun H' p => ?_)
  · rintro i x H' H'' hlt ⟨ee, hl⟩ ⟨rfl, hx⟩
    rw [List.length_map] at hlt
    rw [List.getElem?_map, List.getElem?_eq_getElem hlt] at hx
    obtain rfl : item as[i] = x := by simpa using hx
    have hm : as[i] ∈ as := List.getElem_mem hlt
    have hs := take_snoc (List.getElem?_eq_getElem hlt)
    refine ⟨hw _, ht _ hm H'' ((e.trans e1).trans ee) H'' (Ex.refl _) _ fun H3 e3 => ?_⟩
    cases hp : p as[i] with
    | false =>
      refine ⟨ee.trans e3, ?_⟩
      rw [hs, List.filter_append, List.filter_cons, hp]
      simp only [Bool.false_eq_true, if_false, List.filter_nil, List.append_nil]
      exact e3 _ _ hl
    | true =>
      refine he _ hm hp H3 (((e.trans e1).trans ee).trans e3) H3 (Ex.refl _) _ fun H4 e4 => ⟨_, (e3.trans e4) _ _ hl, ?_, ?_, ?_⟩
      · rw [List.length_map]
        have h1 := List.length_filter_le p (as.take i)
        rw [List.length_take] at h1
        omega
      · exact Ex.mut ((ee.trans e3).trans e4) hD
      · rw [upd_same, hs, List.filter_append, List.filter_cons, hp]
        simp only [if_true, List.filter_nil, List.map_append, List.map_cons, List.map_nil]
  · rw [List.length_map, List.take_length] at p
    exact q D H' (fresh_back e1 hD) (e1.trans p.1) p.2
/-- .. without tests -/
theorem el_lcA {α : Type} {wi : TI} {j : Nat} {vs : List Nat} (as : List α) (item : α → V) (g : α → V) (hi : EvI K wi σ H (as.map item)) (hz : as.length ≤ sizeLine) (hw : ∀ x, wipe ((wipe σ vs).set j (some x)) vs = wipe σ vs)
    (he : ∀ a ∈ as, ∀ H1, Ex H H1 → Ev te ((wipe σ vs).set j (some (item a))) H1 (g a)) : EvL (tLc wi (gName j) tYes te vs) σ H (as.map g) := by
  have h := el_lc (tt := tYes) as item (fun _ => true) g hi hz hw (fun a _ H1 _ H2 _ Q q => q H2 (Ex.refl _)) (fun a ha _ => he a ha)
  rwa [List.filter_eq_self.mpr (fun _ _ => rfl)] at h
end
end Kw

namespace Kw
open PySem PySem.Spec PyProof.Rows L2
/-! ### the text by places -/
def topS (i : Nat) : Stmt := PySem.Challenge.pw_chumwords_k46_whole_walks.main.body.getD i (.Pass ⟨0, 0, 0, 0⟩)
abbrev s_whole : Stmt := topS 11
theorem sc_whole : FnScope ["value"] ["value"] (defScope s_whole) := ⟨rfl, rfl, rfl, by decide +kernel, rfl, by decide +kernel, by decide +kernel⟩
abbrev s_within : Stmt := topS 12
theorem sc_within : FnScope ["value", "low", "high"] ["value", "low", "high"] (defScope s_within) := ⟨rfl, rfl, rfl, by decide +kernel, rfl, by decide +kernel, by decide +kernel⟩
abbrev s_need_number : Stmt := topS 13
theorem sc_need_number : FnScope ["value", "low", "high"] ["value", "low", "high"] (defScope s_need_number) := ⟨rfl, rfl, rfl, by decide +kernel, rfl, by decide +kernel, by decide +kernel⟩
abbrev s_tuple_of : Stmt := topS 14
theorem sc_tuple_of : FnScope ["value", "low", "high"] ["value", "low", "high"] (defScope s_tuple_of) := ⟨rfl, rfl, rfl, by decide +kernel, rfl, by decide +kernel, by decide +kernel⟩
abbrev s_is_pair : Stmt := topS 15
theorem sc_is_pair : FnScope ["many", "value", "told"] ["many", "value"] (defScope s_is_pair) := ⟨rfl, rfl, rfl, by decide +kernel, rfl, by decide +kernel, by decide +kernel⟩
abbrev s_need_company : Stmt := topS 16
theorem sc_need_company : FnScope ["company", "many", "friends", "index", "pair", "letter"] ["company"] (defScope s_need_company) := ⟨rfl, rfl, rfl, by decide +kernel, rfl, by decide +kernel, by decide +kernel⟩
abbrev s_is_word : Stmt := topS 17
theorem sc_is_word : FnScope ["company", "value", "most", "sign"] ["company", "value", "most"] (defScope s_is_word) := ⟨rfl, rfl, rfl, by decide +kernel, rfl, by decide +kernel, by decide +kernel⟩
abbrev s_need_word : Stmt := topS 18
theorem sc_need_word : FnScope ["company", "word"] ["company", "word"] (defScope s_need_word) := ⟨rfl, rfl, rfl, by decide +kernel, rfl, by decide +kernel, by decide +kernel⟩
abbrev s_need_letter : Stmt := topS 19
theorem sc_need_letter : FnScope ["company", "letter"] ["company", "letter"] (defScope s_need_letter) := ⟨rfl, rfl, rfl, by decide +kernel, rfl, by decide +kernel, by decide +kernel⟩
abbrev s_is_set : Stmt := topS 20
theorem sc_is_set : FnScope ["company", "value", "sign", "at"] ["company", "value"] (defScope s_is_set) := ⟨rfl, rfl, rfl, by decide +kernel, rfl, by decide +kernel, by decide +kernel⟩
abbrev s_is_kind : Stmt := topS 21
theorem sc_is_kind : FnScope ["company", "value"] ["company", "value"] (defScope s_is_kind) := ⟨rfl, rfl, rfl, by decide +kernel, rfl, by decide +kernel, by decide +kernel⟩
abbrev s_need_kind : Stmt := topS 22
theorem sc_need_kind : FnScope ["company", "kind"] ["company", "kind"] (defScope s_need_kind) := ⟨rfl, rfl, rfl, by decide +kernel, rfl, by decide +kernel, by decide +kernel⟩
abbrev s_mask_of : Stmt := topS 23
theorem sc_mask_of : FnScope ["letters", "sign"] ["letters"] (defScope s_mask_of) := ⟨rfl, rfl, rfl, by decide +kernel, rfl, by decide +kernel, by decide +kernel⟩
abbrev s_friends_of_all : Stmt := topS 24
theorem sc_friends_of_all : FnScope ["company", "found", "one", "other"] ["company"] (defScope s_friends_of_all) := ⟨rfl, rfl, rfl, by decide +kernel, rfl, by decide +kernel, by decide +kernel⟩
abbrev s_covers : Stmt := topS 25
theorem sc_covers : FnScope ["company", "at", "told"] ["company"] (defScope s_covers) := ⟨rfl, rfl, rfl, by decide +kernel, rfl, by decide +kernel, by decide +kernel⟩
abbrev s_oddness : Stmt := topS 26
theorem sc_oddness : FnScope ["found", "turn", "told"] [] (defScope s_oddness) := ⟨rfl, rfl, rfl, by decide +kernel, rfl, by decide +kernel, by decide +kernel⟩
abbrev s_stepped : Stmt := topS 27
theorem sc_stepped : FnScope ["pair", "at", "cover", "odd"] ["pair", "at", "cover", "odd"] (defScope s_stepped) := ⟨rfl, rfl, rfl, by decide +kernel, rfl, by decide +kernel, by decide +kernel⟩
abbrev s_inner : Stmt := topS 28
theorem sc_inner : FnScope ["kind"] ["kind"] (defScope s_inner) := ⟨rfl, rfl, rfl, by decide +kernel, rfl, by decide +kernel, by decide +kernel⟩
abbrev s_need_both : Stmt := topS 30
theorem sc_need_both : FnScope ["company", "word"] ["company", "word"] (defScope s_need_both) := ⟨rfl, rfl, rfl, by decide +kernel, rfl, by decide +kernel, by decide +kernel⟩
abbrev s_is_walk : Stmt := topS 32
theorem sc_is_walk : FnScope ["company", "word", "told", "places", "sign", "one", "other"] ["company", "word"] (defScope s_is_walk) := ⟨rfl, rfl, rfl, by decide +kernel, rfl, by decide +kernel, by decide +kernel⟩
abbrev s_walk_table : Stmt := topS 33
theorem sc_walk_table : FnScope ["company", "length", "is_friendly", "told", "cover", "odd", "found", "at", "turn", "later", "last", "pair", "key"] ["company", "length", "is_friendly"] (defScope s_walk_table) := ⟨rfl, rfl, rfl, by decide +kernel, rfl, by decide +kernel, by decide +kernel⟩
abbrev s_total_for : Stmt := topS 34
theorem sc_total_for : FnScope ["company", "kind", "length", "is_friendly", "table", "key"] ["company", "kind", "length", "is_friendly"] (defScope s_total_for) := ⟨rfl, rfl, rfl, by decide +kernel, rfl, by decide +kernel, by decide +kernel⟩
abbrev s_count_walks : Stmt := topS 35
theorem sc_count_walks : FnScope ["company", "kind", "length"] ["company", "kind", "length"] (defScope s_count_walks) := ⟨rfl, rfl, rfl, by decide +kernel, rfl, by decide +kernel, by decide +kernel⟩
abbrev s_count_shy : Stmt := topS 36
theorem sc_count_shy : FnScope ["company", "kind", "length"] ["company", "kind", "length"] (defScope s_count_shy) := ⟨rfl, rfl, rfl, by decide +kernel, rfl, by decide +kernel, by decide +kernel⟩
abbrev s_all_walks : Stmt := topS 37
theorem sc_all_walks : FnScope ["company", "length"] ["company", "length"] (defScope s_all_walks) := ⟨rfl, rfl, rfl, by decide +kernel, rfl, by decide +kernel, by decide +kernel⟩
abbrev s_shortest_walk : Stmt := topS 38
theorem sc_shortest_walk : FnScope ["company", "one", "other", "told", "rim", "seen", "word", "later", "at", "sign"] ["company", "one", "other"] (defScope s_shortest_walk) := ⟨rfl, rfl, rfl, by decide +kernel, rfl, by decide +kernel, by decide +kernel⟩
abbrev s_l_taken : Stmt := topS 40
theorem sc_l_taken : FnScope ["_law_row", "_law_many", "_law_found", "_law_cell"] ["_law_row", "_law_many"] (defScope s_l_taken) := ⟨rfl, rfl, rfl, by decide +kernel, rfl, by decide +kernel, by decide +kernel⟩
abbrev s_l_company : Stmt := topS 41
theorem sc_l_company : FnScope ["_law_row", "_law_most", "_law_many", "_law_pairs", "_law_at", "_law_turn", "_law_one", "_law_other"] ["_law_row", "_law_most"] (defScope s_l_company) := ⟨rfl, rfl, rfl, by decide +kernel, rfl, by decide +kernel, by decide +kernel⟩
abbrev s_l_drawn_kind : Stmt := topS 42
theorem sc_l_drawn_kind : FnScope ["_law_row", "_law_company_here", "_law_letters", "_law_sign"] ["_law_row", "_law_company_here"] (defScope s_l_drawn_kind) := ⟨rfl, rfl, rfl, by decide +kernel, rfl, by decide +kernel, by decide +kernel⟩
abbrev s_l_all_words : Stmt := topS 43
theorem sc_l_all_words : FnScope ["_law_company_here", "_law_length", "_law_rows", "_law_turn", "_law_longer", "_law_word_here", "_law_sign"] ["_law_company_here", "_law_length"] (defScope s_l_all_words) := ⟨rfl, rfl, rfl, by decide +kernel, rfl, by decide +kernel, by decide +kernel⟩
abbrev s_l_friend : Stmt := topS 44
theorem sc_l_friend : FnScope ["_law_company_here", "_law_one", "_law_other", "_law_signs"] ["_law_company_here", "_law_one", "_law_other"] (defScope s_l_friend) := ⟨rfl, rfl, rfl, by decide +kernel, rfl, by decide +kernel, by decide +kernel⟩
abbrev s_l_kind : Stmt := topS 45
theorem sc_l_kind : FnScope ["_law_company_here", "_law_word_here", "_law_count", "_law_odd", "_law_sign", "_law_at", "_law_one"] ["_law_company_here", "_law_word_here"] (defScope s_l_kind) := ⟨rfl, rfl, rfl, by decide +kernel, rfl, by decide +kernel, by decide +kernel⟩
abbrev s_l_alike : Stmt := topS 46
theorem sc_l_alike : FnScope ["_law_found", "_law_due", "_law_k"] ["_law_found", "_law_due"] (defScope s_l_alike) := ⟨rfl, rfl, rfl, by decide +kernel, rfl, by decide +kernel, by decide +kernel⟩
abbrev s_l_word : Stmt := topS 47
theorem sc_l_word : FnScope ["_law_row", "_law_company_here", "_law_most", "_law_at"] ["_law_row", "_law_company_here", "_law_most"] (defScope s_l_word) := ⟨rfl, rfl, rfl, by decide +kernel, rfl, by decide +kernel, by decide +kernel⟩
abbrev s_l_pick : Stmt := topS 48
theorem sc_l_pick : FnScope ["_law_row", "_law_things"] ["_law_row", "_law_things"] (defScope s_l_pick) := ⟨rfl, rfl, rfl, by decide +kernel, rfl, by decide +kernel, by decide +kernel⟩
abbrev s_law : Stmt := topS 49
theorem sc_law : FnScope ["_law_script", "_law_row", "_law_company_here", "_law_length", "_law_told", "_law_friendly", "_law_shy", "_law_whole", "_law_word_here", "_law_near", "_law_at", "_law_found", "_law_great", "_law_turn", "_law_sign", "_law_due", "_law_signs", "_law_one", "_law_other", "_law_rows", "_law_goal", "_law_longer", "_law_some", "_law_ends"] ["_law_script"] (defScope s_law) := ⟨rfl, rfl, rfl, by decide +kernel, rfl, by decide +kernel, by decide +kernel⟩
/-- a def of the text, where it stands, and its name in the module -/
structure Df (K : PySem.W.Frag) (mg : Str → Option Value) (x : Str) (st : Stmt) (ps : List Str) (f : Addr) (fd : FuncData) : Prop where
  F : Fun K x x st f fd
  b : Binds K fd ps []
  g : mg x = some (.ref f)
end Kw

namespace Kw
open PySem PySem.Spec PyProof.Rows L2 Evl

/-- the module's names that are still the built-in ones, and its constants -/
structure Bt (mg : Str → Option Value) : Prop where
  isinstance : mg "isinstance" = none
  int : mg "int" = none
  bool : mg "bool" = none
  str : mg "str" = none
  tuple : mg "tuple" = none
  list : mg "list" = none
  len : mg "len" = none
  range : mg "range" = none
  all : mg "all" = none
  any : mg "any" = none
  sum : mg "sum" = none
  min : mg "min" = none
  max : mg "max" = none
  sorted : mg "sorted" = none
  enumerate : mg "enumerate" = none
  zip : mg "zip" = none
  alpha : ∃ t, mg "ALPHABET" = some (.str "abcdefgh" t)
  most : ∃ t, mg "MOST_LETTERS" = some (.int 8 t)
  word : ∃ t, mg "MOST_WORD" = some (.int 60 t)

section
variable {X : Cx}
/-- a call of a def of the text -/
theorem pcall {k : Nat} {x : Str} {st : Stmt} {ps : List Str} {f : Addr} {fd : FuncData} {sp : Sp} {p pos : Pos} {e : Expr} {es : List Expr} {t : TA} (D : Df X.K X.mg x st ps f fd) (G : FnOk X.prog X.w X.K X.mg X.base CX0 k f fd ps sp) (hr : Room k X.A) (ha : PA X (e :: es) t) (hg : Gl X x := by rfl) (hdb : (x == ("__debug__" : Str)) = false := by decide)
    (he : starEach (e :: es) X.env = (false, eval e X.env) :: starEach es X.env := by rfl) (hpl : (backTo pos (starEach es X.env)).any (·.1) = false := by rfl) :
    PE X (.Call (.Name x p) (e :: es) [] pos) (tCall sp [] E0 t) := pe_call G hr hg D.g D.F.kp D.b .nil pass0 ha hdb he hpl
end
/-- the constants of the module -/
theorem pg_alpha {X : Cx} {pos : Pos} (B : Bt X.mg) (hg : Gl X "ALPHABET") : PE X (.Name "ALPHABET" pos) (tC (.str "abcdefgh")) := let ⟨t, e⟩ := B.alpha; pe_glob hg e ⟨t, rfl⟩
theorem pg_most {X : Cx} {pos : Pos} (B : Bt X.mg) (hg : Gl X "MOST_LETTERS") : PE X (.Name "MOST_LETTERS" pos) (tC (.int 8)) := let ⟨t, e⟩ := B.most; pe_glob hg e ⟨t, rfl⟩
theorem pg_word {X : Cx} {pos : Pos} (B : Bt X.mg) (hg : Gl X "MOST_WORD") : PE X (.Name "MOST_WORD" pos) (tC (.int 60)) := let ⟨t, e⟩ := B.word; pe_glob hg e ⟨t, rfl⟩

/-! ### isinstance -/
section
variable {K : PySem.W.Frag} {σ : L2.St} {H : Hp} {ta : TE} {x : V} {T C : String} {b : Bool}
theorem ev_isi {t : Value} (ha : Ev ta σ H x) (ty : ∀ H', Ex H H' → TyX K H' x (.type T)) (hk : kitB T C = some b) : Ev (tCB (rIsi K) (tCons ta (tCons (tC (.ty C)) tNil))) σ H (.bl b) := fun H1 e Q q =>
  ha H1 e _ fun H2 e2 => ⟨x, .ty C, .type T, .type C, b, rfl, .ty C, ty H2 (e.trans e2), kit_ty hk, q H2 e2⟩
theorem ev_chain {r r' : R2} {tb tc : TE} {y z : V} {b c : Bool} (ha : Ev ta σ H x) (hb : Ev tb σ H y) (hr : RV r x y H (.bl b)) (hc : b = true → Ev tc σ H z) (hr' : b = true → RV r' y z H (.bl c)) : Ev (tChain r r' ta tb tc) σ H (.bl (b && c)) := fun H1 e Q q =>
  ha H1 e _ fun H2 e2 => hb H2 (e.trans e2) _ fun H3 e3 => hr H3 ((e.trans e2).trans e3) _ fun H4 e4 => ⟨b, rfl, by
    cases b with
    | false => exact q H4 ((e2.trans e3).trans e4)
    | true => exact hc rfl H4 (((e.trans e2).trans e3).trans e4) _ fun H5 e5 => hr' rfl H5 ((((e.trans e2).trans e3).trans e4).trans e5) _ fun H6 e6 => q H6 ((((e2.trans e3).trans e4).trans e5).trans e6)⟩
end

/-! ### whole, within, need_number, tuple_of -/
def spWhole : Sp := fun vs H Q _ => ∃ i, vs = [.int i] ∧ RetV (.bl true) H Q
def spWithin : Sp := fun vs H Q _ => ∃ v lo hi, vs = [.int v, .int lo, .int hi] ∧ RetV (.bl (decide (lo ≤ v) && decide (v ≤ hi))) H Q
def spNeedNumber : Sp := fun vs H Q _ => ∃ v lo hi, vs = [.int v, .int lo, .int hi] ∧ lo ≤ v ∧ v ≤ hi ∧ RetV .non H Q
def spTupleOf (K : PySem.W.Frag) : Sp := fun vs H Q _ => ∃ a xs lo hi, vs = [.ref a, .int lo, .int hi] ∧ H a = some (.tup xs) ∧ lo ≤ (xs.length : Int) ∧ (xs.length : Int) ≤ hi ∧ RetV (.bl true) H Q
section
variable {P : Program} {w : World} {K : PySem.W.Frag} {mg : Str → Option Value} {base : Heap}
theorem ok_whole {f : Addr} {fd : FuncData} (D : Df K mg "whole" s_whole ["value"] f fd) (B : Bt mg) : FnOk P w K mg base CX0 1 f fd ["value"] spWhole := by
  refine D.F.ok sc_whole (fun vs H Q E h => ?_) (fun cdv A outer s H vs Q E hr h => ?_)
  · obtain ⟨i, rfl, _⟩ := h
    rfl
  · obtain ⟨i, rfl, q⟩ := h
    refine ⟨_, pss_one (ps_ret (pe_and (pe_callB call_isi (by rfl) B.isinstance boot_isinstance (pa_cons (pv 0) (pa_cons (pe_bltn (v := .ty "int") (by rfl) B.int boot_int rfl) pa_nil)))
      (pe_one (pe_not (pe_callB call_isi (by rfl) B.isinstance boot_isinstance (pa_cons (pv 0) (pa_cons (pe_bltn (v := .ty "bool") (by rfl) B.bool boot_bool rfl) pa_nil))))))), ?_⟩
    refine s_ret (v := .bl true) (ev_is (ev_andV (a := true) (b := true) (ev_isi (t := .none) (ev_var rfl) (fun H' _ => .base (.int i)) (by decide +kernel)) fun _ => ev_notV (a := false) (ev_isi (t := .none) (ev_var rfl) (fun H' _ => .base (.int i)) (by decide +kernel))) rfl) q
theorem ok_within {f fW : Addr} {fd fdW : FuncData} (D : Df K mg "within" s_within ["value", "low", "high"] f fd) (DW : Df K mg "whole" s_whole ["value"] fW fdW) (GW : FnOk P w K mg base CX0 1 fW fdW ["value"] spWhole) : FnOk P w K mg base CX0 2 f fd ["value", "low", "high"] spWithin := by
  refine D.F.ok sc_within (fun vs H Q E h => ?_) (fun cdv A outer s H vs Q E hr h => ?_)
  · obtain ⟨v, lo, hi, rfl, _⟩ := h
    rfl
  · obtain ⟨v, lo, hi, rfl, q⟩ := h
    refine ⟨_, pss_one (ps_ret (pe_and (pcall DW GW hr (pa_cons (pv 0) pa_nil)) (pe_one (pe_chain op_le op_le (pv 1) (pv 0) (pv 2))))), ?_⟩
    refine s_ret (ev_is (ev_andV (a := true) (ev_call (vs := [.int v]) (ea_cons (ev_var rfl) ea_nil) fun H1 e1 Q' q' E' => ⟨v, rfl, q'⟩) fun _ => ev_chain (ev_var rfl) (ev_var rfl) rv_I0 (fun _ => ev_var rfl) (fun _ => rv_I0)) ?_) q
    rfl
theorem ok_need_number {f fW : Addr} {fd fdW : FuncData} (D : Df K mg "need_number" s_need_number ["value", "low", "high"] f fd) (DW : Df K mg "within" s_within ["value", "low", "high"] fW fdW) (GW : FnOk P w K mg base CX0 2 fW fdW ["value", "low", "high"] spWithin) : FnOk P w K mg base CX0 3 f fd ["value", "low", "high"] spNeedNumber := by
  refine D.F.ok sc_need_number (fun vs H Q E h => ?_) (fun cdv A outer s H vs Q E hr h => ?_)
  · obtain ⟨v, lo, hi, rfl, _⟩ := h
    rfl
  · obtain ⟨v, lo, hi, rfl, h1, h2, q⟩ := h
    refine ⟨_, pss_one (ps_if (pt_not (pt_val (pcall DW GW hr (pa_cons (pv 0) (pa_cons (pv 1) (pa_cons (pv 2) pa_nil)))))) (pss_one ps_never) pss_nil), ?_⟩
    refine s_if (b := false) (et_is (et_not (a := true) (et_B (ev_is (ev_call (vs := [.int v, .int lo, .int hi]) (ea_cons (ev_var rfl) (ea_cons (ev_var rfl) (ea_cons (ev_var rfl) ea_nil))) fun H1 e1 Q' q' E' => ⟨v, lo, hi, rfl, q'⟩) ?_))) rfl) (fun z => Bool.noConfusion z) (fun _ H1 e1 => q H1 e1)
    rw [decide_eq_true h1, decide_eq_true h2]
    rfl
theorem ok_tuple_of {f : Addr} {fd : FuncData} (D : Df K mg "tuple_of" s_tuple_of ["value", "low", "high"] f fd) (B : Bt mg) : FnOk P w K mg base CX0 1 f fd ["value", "low", "high"] (spTupleOf K) := by
  refine D.F.ok sc_tuple_of (fun vs H Q E h => ?_) (fun cdv A outer s H vs Q E hr h => ?_)
  · obtain ⟨a, xs, lo, hi, rfl, _⟩ := h
    rfl
  · obtain ⟨a, xs, lo, hi, rfl, ha, h1, h2, q⟩ := h
    refine ⟨_, pss_one (ps_ret (pe_and (pe_callB call_isi (by rfl) B.isinstance boot_isinstance (pa_cons (pv 0) (pa_cons (pe_bltn (v := .ty "tuple") (by rfl) B.tuple boot_tuple rfl) pa_nil)))
      (pe_one (pe_chain op_le op_le (pv 1) (pe_callB call_len_seq (by rfl) B.len PySem.boot_len (pa_cons (pv 0) pa_nil)) (pv 2))))), ?_⟩
    have hl : Ev (tCB (fun xs H Q => ∃ p ys, xs = [V.ref p] ∧ (SqL K H p ys ∨ SqT K H p ys) ∧ Q (.int ys.length) H) (tCons (tVar 0) tNil)) (start ["value", "low", "high"] [.ref a, .int lo, .int hi]) H (.int (xs.length : Int)) := fun H1 e Q q => ⟨.ref a, rfl, a, xs, rfl, .inr (st_of (e _ _ ha)), q H1 (Ex.refl _)⟩
    refine s_ret (ev_is (ev_andV (a := true) (ev_isi (t := .none) (ev_var rfl) (fun H' e => .base (.tup (e _ _ ha))) (by decide +kernel)) fun _ => ev_chain (ev_var rfl) hl rv_I0 (fun _ => ev_var rfl) (fun _ => rv_I0)) ?_) q
    rw [decide_eq_true h1, decide_eq_true h2]
    rfl
end
end Kw

namespace Kw
open PySem PySem.Spec PyProof.Rows L2 Evl

/-! ### companies -/
structure Co (n : Nat) (ps : List (Nat × Nat)) : Prop where
  lo : 2 ≤ n
  hi : n ≤ 8
  lt : ∀ p ∈ ps, p.1 < p.2 ∧ p.2 < n
  asc : ps.Pairwise (fun p q => p.1 < q.1 ∨ (p.1 = q.1 ∧ p.2 < q.2))
  all : ∀ l, l < n → ∃ p ∈ ps, p.1 = l ∨ p.2 = l
  most : ps.length ≤ 28
abbrev vP (q : Nat × Nat) : List V := [.int (q.1 : Nat), .int (q.2 : Nat)]
/-- tuples stay -/
def Tu (H H' : Hp) : Prop := ∀ a xs, H a = some (.tup xs) → H' a = some (.tup xs)
theorem Tu.refl (H : Hp) : Tu H H := fun _ _ h => h
theorem Tu.trans {H H1 H2 : Hp} (a : Tu H H1) (b : Tu H1 H2) : Tu H H2 := fun x o h => b x o (a x o h)
theorem tu_ex {H H' : Hp} (e : Ex H H') : Tu H H' := fun a xs h => e a _ h
theorem tu_upd {H : Hp} {p : Addr} {o : HO} (h : ∀ xs, H p ≠ some (.tup xs)) : Tu H (upd H p o) := fun a xs e => by
  rw [upd_ne (fun z => h xs (by rw [← z]; exact e))]
  exact e
def PairsB (H : Hp) (bs : List Addr) (ps : List (Nat × Nat)) : Prop := Paired (fun b q => H b = some (.tup (vP q))) bs ps
def CoAt (H : Hp) (c : Addr) (n : Nat) (ps : List (Nat × Nat)) : Prop := ∃ a bs, H c = some (.tup [.int (n : Nat), .ref a]) ∧ H a = some (.tup (bs.map V.ref)) ∧ PairsB H bs ps
theorem PairsB.mono {H H' : Hp} {bs : List Addr} {ps : List (Nat × Nat)} (t : Tu H H') (h : PairsB H bs ps) : PairsB H' bs ps := Paired.mapP h fun b q e => t b _ e
theorem CoAt.mono {H H' : Hp} {c : Addr} {n : Nat} {ps : List (Nat × Nat)} (t : Tu H H') (h : CoAt H c n ps) : CoAt H' c n ps := by
  obtain ⟨a, bs, h1, h2, h3⟩ := h
  exact ⟨a, bs, t _ _ h1, t _ _ h2, h3.mono t⟩
theorem PairsB.len {H : Hp} {bs : List Addr} {ps : List (Nat × Nat)} (h : PairsB H bs ps) : bs.length = ps.length := Paired.length h
theorem paired_at {α β : Type} {F : α → β → Prop} {l : List α} {m : List β} (h : Paired F l m) : ∀ {i : Nat} {x : α} {y : β}, l[i]? = some x → m[i]? = some y → F x y := by
  induction h with
  | nil => intro i x y e; simp at e
  | cons r t ih =>
    intro i x y e1 e2
    cases i with
    | zero =>
      simp only [List.getElem?_cons_zero, Option.some.injEq] at e1 e2
      subst e1 e2
      exact r
    | succ i => exact ih (by simpa using e1) (by simpa using e2)

/-! ### statements -/
section
variable {K : PySem.W.Frag} {σ : L2.St} {H : Hp} {te : TE} {ta : TA} {D : Ends} {tu tz : TS} {g : TG}
theorem s_forE {a : Addr} {xs : List V} (h : EvA ta σ H [.ref a]) (hx : H a = some (.tup xs)) (Pv : Nat → L2.St → Hp → Prop) (h0 : ∀ H1, Ex H H1 → Pv 0 σ H1) (hl : ∀ i σ' H', Pv i σ' H' → H' a = some (.tup xs))
    (hs : ∀ i x σ' H' T, xs[i]? = some x → Pv i σ' H' → H' T = none → g (.ref T) σ' (upd H' T (.tup [.int (i : Nat), x])) fun σ2 H2 => tu { D with nx := Pv (i + 1), ct := Pv (i + 1), bk := D.nx } σ2 H2) (hd : ∀ σ' H', Pv xs.length σ' H' → D.nx σ' H') : tFor (iEnumT K ta) g tu D σ H :=
  h H (Ex.refl H) _ fun H1 e => ⟨a, xs, rfl, st_of (e _ _ hx), for_enumT Pv (h0 H1 e) (fun i σ' H' _ p => st_of (hl i σ' H' p)) hs hd⟩
/-- a, b = (x, y) -/
theorem g_two {i j : Nat} {a : Addr} {x y : V} {σ' : L2.St} {H' : Hp} {Q : L2.St → Hp → Prop} (ha : H' a = some (.tup [x, y])) (q : Q ((σ'.set i (some x)).set j (some y)) H') : gTup K 2 (gCons (gName i) (gCons (gName j) gNil)) (.ref a) σ' H' Q :=
  ⟨a, [x, y], rfl, st_of ha, rfl, x, [y], rfl, y, [], rfl, rfl, q⟩
theorem s_two {i j : Nat} {a : Addr} {x y : V} (h : Ev te σ H (.ref a)) (ha : H a = some (.tup [x, y])) (k : ∀ H1, Ex H H1 → D.nx ((σ.set i (some x)).set j (some y)) H1) : tAsg te (gTup K 2 (gCons (gName i) (gCons (gName j) gNil))) D σ H :=
  h H (Ex.refl H) _ fun H1 e => g_two (e _ _ ha) (k H1 e)
theorem q_forE {a : Addr} {xs : List V} (h : EvA ta σ H [.ref a]) (hx : H a = some (.tup xs)) (Pv : Nat → L2.St → Hp → Prop) (h0 : ∀ H1, Ex H H1 → Pv 0 σ H1) (hl : ∀ i σ' H', Pv i σ' H' → H' a = some (.tup xs))
    (hs : ∀ i x σ' H' T, xs[i]? = some x → Pv i σ' H' → H' T = none → g (.ref T) σ' (upd H' T (.tup [.int (i : Nat), x])) fun σ2 H2 => tu { D with nx := Pv (i + 1), ct := Pv (i + 1), bk := tz D } σ2 H2) (hd : ∀ σ' H', Pv xs.length σ' H' → tz D σ' H') : tSeq (tFor (iEnumT K ta) g tu) tz D σ H :=
  s_forE (D := { D with nx := tz D }) h hx Pv h0 hl hs hd
theorem q_two {i j : Nat} {a : Addr} {x y : V} (h : Ev te σ H (.ref a)) (ha : H a = some (.tup [x, y])) (k : ∀ H1, Ex H H1 → tz D ((σ.set i (some x)).set j (some y)) H1) : tSeq (tAsg te (gTup K 2 (gCons (gName i) (gCons (gName j) gNil)))) tz D σ H :=
  s_two (D := { D with nx := tz D }) h ha k
theorem rv_ixP {a : Addr} {xs : List V} {j : Nat} {v : V} (h : H a = some (.tup xs)) (hj : xs[j]? = some v) : RV (rIxT K) (.ref a) (.int (j : Nat)) H v := rv_ixT (st_of h) (atI_nat hj)
theorem ev_allL {ta : TE} {bs : List Bool} (h : EvL ta σ H (bs.map V.bl)) : Ev (tCB (rAll K) (tCons ta tNil)) σ H (.bl (bs.all id)) := fun H1 e Q q => h H1 e _ fun p H2 _ e2 hp => ⟨p, bs, rfl, sq_of hp, q H2 e2⟩
theorem ev_anyL {ta : TE} {bs : List Bool} (h : EvL ta σ H (bs.map V.bl)) : Ev (tCB (rAny K) (tCons ta tNil)) σ H (.bl (bs.any id)) := fun H1 e Q q => h H1 e _ fun p H2 _ e2 hp => ⟨p, bs, rfl, sq_of hp, q H2 e2⟩
theorem rv_leP {a b : Addr} {x y : Nat × Nat} (ha : H a = some (.tup (vP x))) (hb : H b = some (.tup (vP y))) (hlt : y.1 < x.1 ∨ (y.1 = x.1 ∧ y.2 < x.2)) : RV (rLeT K) (.ref a) (.ref b) H (.bl false) := fun H1 e Q q =>
  ⟨a, b, [(x.1 : Int), (x.2 : Int)], [(y.1 : Int), (y.2 : Int)], rfl, rfl, st_of (e _ _ ha), st_of (e _ _ hb), by
    have : Ob.lexAt (fun j => decide ([(x.1 : Int), (x.2 : Int)].getD j 0 = [(y.1 : Int), (y.2 : Int)].getD j 0)) (fun j => decide ([(x.1 : Int), (x.2 : Int)].getD j 0 ≤ [(y.1 : Int), (y.2 : Int)].getD j 0)) (decide (([(x.1 : Int), (x.2 : Int)] : List Int).length ≤ ([(y.1 : Int), (y.2 : Int)] : List Int).length)) 0
        (min ([(x.1 : Int), (x.2 : Int)] : List Int).length ([(y.1 : Int), (y.2 : Int)] : List Int).length) = false := by
      show Ob.lexAt _ _ _ 0 2 = false
      rw [Ob.lexAt_succ, Ob.lexAt_succ, Ob.lexAt_zero]
      simp only [List.getD_cons_zero, List.getD_cons_succ, decide_eq_true_eq]
      rcases hlt with h | ⟨h1, h2⟩
      · rw [if_neg (by omega), decide_eq_false (by omega)]
      · rw [if_pos (by omega), if_neg (by omega), decide_eq_false (by omega)]
    rw [this]
    exact q H1 (Ex.refl _)⟩
end
end Kw

namespace Kw
open PySem PySem.Spec PyProof.Rows L2 Evl

def spIsPair : Sp := fun vs H Q _ => ∃ (n : Nat) (q : Nat × Nat) (a : Addr), vs = [.int n, .ref a] ∧ H a = some (.tup (vP q)) ∧ q.1 < q.2 ∧ q.2 < n ∧ RetV (.bl true) H Q
def spNeedCo : Sp := fun vs H Q _ => ∃ (c : Addr) (n : Nat) (ps : List (Nat × Nat)), vs = [.ref c] ∧ Co n ps ∧ CoAt H c n ps ∧ RetV .non H Q
section
variable {P : Program} {w : World} {K : PySem.W.Frag} {mg : Str → Option Value} {base : Heap} {σ : L2.St} {H : Hp}
theorem ev_tupleOf {ta : TA} {a : Addr} {xs : List V} {lo hi : Int} {E : XK} (h : EvA ta σ H [.ref a, .int lo, .int hi]) (ha : H a = some (.tup xs)) (h1 : lo ≤ (xs.length : Int)) (h2 : (xs.length : Int) ≤ hi) : Ev (tCall (spTupleOf K) [] E ta) σ H (.bl true) :=
  ev_call (vs := [.ref a, .int lo, .int hi]) h fun H1 e1 Q' q' E' => ⟨a, xs, lo, hi, rfl, e1 _ _ ha, h1, h2, q'⟩
theorem ev_whole {ta : TA} {i : Int} {E : XK} (h : EvA ta σ H [.int i]) : Ev (tCall spWhole [] E ta) σ H (.bl true) :=
  ev_call (vs := [.int i]) h fun H1 e1 Q' q' E' => ⟨i, rfl, q'⟩
theorem ev_within {ta : TA} {v lo hi : Int} {E : XK} (h : EvA ta σ H [.int v, .int lo, .int hi]) (h1 : lo ≤ v) (h2 : v ≤ hi) : Ev (tCall spWithin [] E ta) σ H (.bl true) :=
  ev_is (ev_call (vs := [.int v, .int lo, .int hi]) h fun H1 e1 Q' q' E' => ⟨v, lo, hi, rfl, q'⟩) (by rw [decide_eq_true h1, decide_eq_true h2]; rfl)
theorem ev_chain3 {r r' r'' : R2} {ta tb tc td : TE} {x y z u : V} (ha : Ev ta σ H x) (hb : Ev tb σ H y) (hc : Ev tc σ H z) (hd : Ev td σ H u) (h1 : RV r x y H (.bl true)) (h2 : RV r' y z H (.bl true)) (h3 : RV r'' z u H (.bl true)) : Ev (tChain3 r r' r'' ta tb tc td) σ H (.bl true) := fun H1 e Q q =>
  ha H1 e _ fun H2 e2 => hb H2 (e.trans e2) _ fun H3 e3 => h1 H3 ((e.trans e2).trans e3) _ fun H4 e4 => ⟨true, rfl, hc H4 (((e.trans e2).trans e3).trans e4) _ fun H5 e5 => h2 H5 ((((e.trans e2).trans e3).trans e4).trans e5) _ fun H6 e6 => ⟨true, rfl,
    hd H6 (((((e.trans e2).trans e3).trans e4).trans e5).trans e6) _ fun H7 e7 => h3 H7 ((((((e.trans e2).trans e3).trans e4).trans e5).trans e6).trans e7) _ fun H8 e8 => q H8 ((((((e2.trans e3).trans e4).trans e5).trans e6).trans e7).trans e8)⟩⟩
theorem rv_I0T {f : Int → Int → Bool} {i j : Int} (h : f i j = true) : RV (rI0 fun i j => .bl (f i j)) (.int i) (.int j) H (.bl true) := by
  rw [← h]
  exact rv_I0 (g := fun i j => V.bl (f i j))
theorem ok_is_pair {f fT fW : Addr} {fd fdT fdW : FuncData} (D : Df K mg "is_pair" s_is_pair ["many", "value"] f fd) (B : Bt mg)
    (DT : Df K mg "tuple_of" s_tuple_of ["value", "low", "high"] fT fdT) (GT : FnOk P w K mg base CX0 1 fT fdT ["value", "low", "high"] (spTupleOf K))
    (DW : Df K mg "whole" s_whole ["value"] fW fdW) (GW : FnOk P w K mg base CX0 1 fW fdW ["value"] spWhole) : FnOk P w K mg base CX0 2 f fd ["many", "value"] spIsPair := by
  refine D.F.ok sc_is_pair (fun vs H Q E h => ?_) (fun cdv A outer s H vs Q E hr h => ?_)
  · obtain ⟨n, q, a, rfl, _⟩ := h
    rfl
  · obtain ⟨n, q, a, rfl, ha, h1, h2, k⟩ := h
    have nd := sc_is_pair.nd
    refine ⟨_, pss_cons (ps_if (PW.pt (pw_or (pt_not (pt_val (pcall DT GT hr (pa_cons (pv 1) (pa_cons pe_int (pa_cons pe_int pa_nil)))))) (pw_or1 (pt_not (pt_val (pe_callB (cr_all rfl) (by rfl) B.all (by decide +kernel) (pa_cons
      (pe_lc (own := [("told", 2)]) (g := gName 2) (tt := tYes) rfl nd (pi_tup (pv 1)) (blkOk_by (N := ["many", "value", "told"]) (sc := defScope s_is_pair) (by decide +kernel)) (fun _ _ _ _ _ => pg_name (i := 2) nd rfl (Or.inl rfl)) (fun _ _ _ _ _ => pts_nil) (fun _ _ _ _ _ => pcall DW GW hr (pa_cons (pv 2) pa_nil))) pa_nil)))))))
      (pss_one (ps_ret pe_bl)) pss_nil) (pss_one (ps_ret (pe_chain3 op_le op_lt op_lt pe_int (pe_ix ix_tup (pv 1) pe_int (fun _ _ => rfl)) (pe_ix ix_tup (pv 1) pe_int (fun _ _ => rfl)) (pv 0)))), ?_⟩
    refine q_when (b := false) (et_is (et_or (et_not (et_B (ev_tupleOf (ea_cons (ev_var rfl) (ea_cons ev_c (ea_cons ev_c ea_nil))) ha (Int.le_refl 2) (Int.le_refl 2)))) fun _ => et_not (a := true) (et_B (ev_is (ev_allL (bs := [true, true])
      (el_lcA (vP q) id (fun _ => .bl true) (by rw [List.map_id]; exact ei_tup (ev_var rfl) (st_of ha)) (show 2 ≤ sizeLine by decide) (fun _ => rfl) fun x hx H1 e1 => ?_)) rfl))) rfl) (fun z => Bool.noConfusion z) fun _ H1 e1 => ?_
    · have : x = .int (q.1 : Nat) ∨ x = .int (q.2 : Nat) := by simpa using hx
      rcases this with rfl | rfl
      · exact ev_whole (ea_cons (ev_var rfl) ea_nil)
      · exact ev_whole (ea_cons (ev_var rfl) ea_nil)
    · have ha1 := e1 _ _ ha
      have e0 : Ev (tOp (rIxT K) (tVar 1) (tC (.int 0))) (start ["many", "value", "told"] [.int n, .ref a]) H1 (.int (q.1 : Nat)) := ev_op (ev_var rfl) ev_c (rv_ixP (j := 0) ha1 rfl)
      have e2 : Ev (tOp (rIxT K) (tVar 1) (tC (.int 1))) (start ["many", "value", "told"] [.int n, .ref a]) H1 (.int (q.2 : Nat)) := ev_op (ev_var rfl) ev_c (rv_ixP (j := 1) ha1 rfl)
      exact s_ret (ev_chain3 ev_c e0 e2 (ev_var rfl) (rv_I0T (decide_eq_true (by omega))) (rv_I0T (decide_eq_true (by omega))) (rv_I0T (decide_eq_true (by omega)))) fun H2 x2 => k H2 (e1.trans x2)
theorem vInts_nat {n : Nat} : vInts 0 n = (List.range n).map fun i => V.int ((i : Nat) : Int) := by
  unfold vInts
  exact List.map_congr_left fun i _ => by rw [Int.zero_add]
/-- a comprehension over references, told by what stands there -/
theorem el_lcP {α : Type} {wi : TI} {te : TE} {j : Nat} {vs : List Nat} (bs : List Addr) (ps : List α) (hl : bs.length = ps.length) (g : α → V) (hi : EvI K wi σ H (bs.map V.ref)) (hz : ps.length ≤ sizeLine) (hw : ∀ x, wipe ((wipe σ vs).set j (some x)) vs = wipe σ vs)
    (he : ∀ (i : Nat) b q, bs[i]? = some b → ps[i]? = some q → ∀ H1, Ex H H1 → Ev te ((wipe σ vs).set j (some (.ref b))) H1 (g q)) : EvL (tLc wi (gName j) tYes te vs) σ H (ps.map g) := by
  have h := el_lcA (te := te) (j := j) (vs := vs) (bs.zip ps) (fun z => V.ref z.1) (fun z => g z.2) (by
    rw [show (bs.zip ps).map (fun z => V.ref z.1) = ((bs.zip ps).map Prod.fst).map V.ref by rw [List.map_map]; rfl, List.map_fst_zip (by omega)]
    exact hi) (by rw [List.length_zip]; omega) hw (fun z hz H1 e1 => by
      obtain ⟨i, hi, e⟩ := List.getElem_of_mem hz
      rw [List.length_zip] at hi
      have h1 : bs[i]? = some z.1 := by rw [← e, List.getElem_zip]; exact List.getElem?_eq_getElem (by omega)
      have h2 : ps[i]? = some z.2 := by rw [← e, List.getElem_zip]; exact List.getElem?_eq_getElem (by omega)
      exact he i _ _ h1 h2 H1 e1)
  rwa [show (bs.zip ps).map (fun z => g z.2) = ((bs.zip ps).map Prod.snd).map g by rw [List.map_map]; rfl, List.map_snd_zip (by omega)] at h
theorem in_pair (q : Nat × Nat) (l : Nat) : inV (.int (l : Nat)) (vP q) = decide (q.1 = l ∨ q.2 = l) := by
  show ((((q.1 : Nat) : Int) == ((l : Nat) : Int)) || ((((q.2 : Nat) : Int) == ((l : Nat) : Int)) || false)) = _
  rw [Bool.or_false, Bool.decide_or, Bool.beq_eq_decide_eq, Bool.beq_eq_decide_eq]
  rw [decide_eq_decide.mpr (show ((q.1 : Int) = (l : Int)) ↔ q.1 = l by omega), decide_eq_decide.mpr (show ((q.2 : Int) = (l : Int)) ↔ q.2 = l by omega)]
theorem ok_need_company {f fT fW fP : Addr} {fd fdT fdW fdP : FuncData} (D : Df K mg "need_company" s_need_company ["company"] f fd) (B : Bt mg)
    (DT : Df K mg "tuple_of" s_tuple_of ["value", "low", "high"] fT fdT) (GT : FnOk P w K mg base CX0 1 fT fdT ["value", "low", "high"] (spTupleOf K))
    (DW : Df K mg "within" s_within ["value", "low", "high"] fW fdW) (GW : FnOk P w K mg base CX0 2 fW fdW ["value", "low", "high"] spWithin)
    (DP : Df K mg "is_pair" s_is_pair ["many", "value"] fP fdP) (GP : FnOk P w K mg base CX0 2 fP fdP ["many", "value"] spIsPair) : FnOk P w K mg base CX0 3 f fd ["company"] spNeedCo := by
  refine D.F.ok sc_need_company (fun vs H Q E h => ?_) (fun cdv A outer s H vs Q E hr h => ?_)
  · obtain ⟨c, n, ps, rfl, _⟩ := h
    rfl
  · obtain ⟨c, n, ps, rfl, co, hc, k⟩ := h
    have nd := sc_need_company.nd
    refine ⟨_, (pss_cons (ps_if (PW.pt (pw_or (pt_not (pt_val (pcall DT GT (hr.mono (by decide)) (pa_cons (pv 0) (pa_cons pe_int (pa_cons pe_int pa_nil)))))) (pw_or (pt_not (pt_val (pcall DW GW hr (pa_cons (pe_ix ix_tup (pv 0) pe_int (fun _ _ => rfl)) (pa_cons pe_int (pa_cons (pg_most B rfl) pa_nil)))))) (pw_or1 (pt_not (pt_val (pcall DT GT (hr.mono (by decide)) (pa_cons (pe_ix ix_tup (pv 0) pe_int (fun _ _ => rfl)) (pa_cons pe_int (pa_cons pe_int pa_nil)))))))))) (pss_one ps_never) pss_nil)
      (pss_cons (ps_asg (pv 0) (pg_tup (by rfl) (pgs_cons (pg_name (i := 1) nd rfl (Or.inl rfl)) (pgs_cons (pg_name (i := 2) nd rfl (Or.inr rfl)) pgs_nil))))
      (pss_cons (ps_for PassesOwn.never rfl (pi_enumT (by rfl) B.enumerate (pa_cons (pv 2) pa_nil)) (pg_tup (by rfl) (pgs_cons (pg_name (i := 3) nd rfl (Or.inl rfl)) (pgs_cons (pg_name (i := 4) nd rfl (Or.inl rfl)) pgs_nil))) (pss_one (ps_if (PW.pt (pw_or (pt_not (pt_val (pcall DP GP hr (pa_cons (pv 1) (pa_cons (pv 4) pa_nil))))) (pw_or1 (PW.pt (pw_and (pt_cmpR op_gt (pv 3) pe_int (nomark _)) (pw_and1 (pt_cmpR (op_leT hr.units0) (pv 4) (pe_ix ix_tup (pv 2) (pe_op op_sub (pv 3) pe_int) (fun _ _ => rfl)) (nomark _)))))))) (pss_one ps_never) pss_nil)))
      (pss_one (ps_if (pt_not (pt_val (pe_callB (cr_all rfl) (by rfl) B.all (by decide +kernel) (pa_cons (pe_lc (own := [("letter", 5)]) (tt := tYes) rfl nd (pi_range1 rfl B.range (pa_cons (pv 1) pa_nil)) (blkOk_by (N := ["company", "many", "friends", "index", "pair", "letter"]) (sc := (defScope s_need_company)) (by decide +kernel)) (fun _ _ _ _ _ => (pg_name (i := 5) nd rfl (Or.inr rfl))) (fun _ _ _ _ _ => pts_nil)
        (fun _ _ _ _ _ => (pe_callB (r := rAny K) (cr_any rfl) (by rfl) B.any (by decide +kernel) (pa_cons (pe_lc (wi := iTup K (tVar 2)) (own := [("pair", 4)]) (tt := tYes) rfl nd (pi_tup (pv 2)) (blkOk_by (N := ["company", "many", "friends", "index", "pair", "letter"]) (sc := (relS _ (defScope s_need_company))) (by decide +kernel)) (fun _ _ _ _ _ => (pg_name (i := 4) nd rfl (Or.inl rfl))) (fun _ _ _ _ _ => pts_nil)
        (fun _ _ _ _ _ => (pe_cmpR (r := rIn K false) op_in_seq (pv 5) (pv 4) rfl))) pa_nil)))) pa_nil)))) (pss_one ps_never) pss_nil))))), ?_⟩
    obtain ⟨a, bs, hc1, ha, hp⟩ := hc
    have e0 : ∀ H1, Ex H H1 → Ev (tOp (rIxT K) (tVar 0) (tC (.int 0))) (start ["company", "many", "friends", "index", "pair", "letter"] [.ref c]) H1 (.int (n : Nat)) := fun H1 e => ev_op (ev_var rfl) ev_c (rv_ixP (j := 0) (e _ _ hc1) rfl)
    have e1 : ∀ H1, Ex H H1 → Ev (tOp (rIxT K) (tVar 0) (tC (.int 1))) (start ["company", "many", "friends", "index", "pair", "letter"] [.ref c]) H1 (.ref a) := fun H1 e => ev_op (ev_var rfl) ev_c (rv_ixP (j := 1) (e _ _ hc1) rfl)
    have hlen : bs.length = ps.length := hp.len
    have hpos : 1 ≤ ps.length := by
      obtain ⟨p, hp, _⟩ := co.all 0 (by have := co.lo; omega)
      exact List.length_pos_of_mem hp
    refine q_when (b := false) (et_is (et_or (et_not (et_B (ev_tupleOf (ea_cons (ev_var rfl) (ea_cons ev_c (ea_cons ev_c ea_nil))) hc1 (Int.le_refl 2) (Int.le_refl 2)))) fun _ => et_or (et_not (et_B (ev_within (ea_cons (e0 H (Ex.refl H)) (ea_cons ev_c (ea_cons ev_c ea_nil))) (by have := co.lo; omega) (by have := co.hi; omega)))) fun _ =>
      et_not (et_B (ev_tupleOf (ea_cons (e1 H (Ex.refl H)) (ea_cons ev_c (ea_cons ev_c ea_nil))) ha (by rw [List.length_map, hlen]; omega) (by rw [List.length_map, hlen]; have := co.most; omega)))) rfl) (fun z => Bool.noConfusion z) fun _ H1 x1 => ?_
    refine q_two (ev_var rfl) (x1 _ _ hc1) fun H2 x2 => ?_
    refine q_forE (a := a) (xs := bs.map V.ref) (ea_cons (ev_var rfl) ea_nil) ((x1.trans x2) _ _ ha) (fun i σ' H' => (∃ u v, σ' = [some (.ref c), some (.int (n : Nat)), some (.ref a), u, v, none]) ∧ Ex H H') (fun H3 x3 => ⟨⟨_, _, rfl⟩, (x1.trans x2).trans x3⟩) (fun i σ' H' p => p.2 _ _ ha) ?_ ?_
    · skip
      rintro i x σ' H' T hx ⟨⟨u, v, rfl⟩, xx⟩ hT
      have hi : i < bs.length := by
        have := (List.getElem?_eq_some_iff.mp hx).1
        rwa [List.length_map] at this
      obtain rfl : .ref bs[i] = x := by simpa [List.getElem?_map, List.getElem?_eq_getElem hi] using hx
      have hi2 : i < ps.length := by omega
      have hb : H bs[i] = some (.tup (vP ps[i])) := paired_at hp (List.getElem?_eq_getElem hi) (List.getElem?_eq_getElem hi2)
      have hq := co.lt ps[i] (List.getElem_mem hi2)
      have xT : Ex H (upd H' T (.tup [.int (i : Nat), .ref bs[i]])) := xx.trans (Ex.new hT)
      refine g_two upd_same ?_
      refine s_when (b := false) (et_is (et_or (et_not (a := true) (et_B (ev_call (vs := [.int (n : Nat), .ref bs[i]]) (ea_cons (ev_var rfl) (ea_cons (ev_var rfl) ea_nil)) fun H4 x4 Q' q' E' => ⟨n, ps[i], bs[i], rfl, (xT.trans x4) _ _ hb, hq.1, hq.2, q'⟩)))
        fun _ => et_and (a := decide (0 < (i : Int))) (b := false) (et_test (ev_op (ev_var rfl) ev_c rv_I0)) fun h0 => ?_) (by rw [Bool.and_false]; rfl)) (fun z => Bool.noConfusion z) fun _ H4 x4 => ⟨⟨_, _, rfl⟩, xT.trans x4⟩
      have h0 : 0 < i := by have := of_decide_eq_true h0; omega
      have hj : i - 1 < bs.length := by omega
      have hj2 : i - 1 < ps.length := by omega
      have hb' : H bs[i - 1] = some (.tup (vP ps[i - 1])) := paired_at hp (List.getElem?_eq_getElem hj) (List.getElem?_eq_getElem hj2)
      have as := List.pairwise_iff_getElem.mp co.asc (i - 1) i hj2 hi2 (by omega)
      refine et_test (ev_op (ev_var rfl) (ev_op (ev_var rfl) (ev_op (z := .int ((i - 1 : Nat) : Int)) (ev_var rfl) ev_c ?_) (rv_ixP (j := i - 1) (xT _ _ ha) (by rw [List.getElem?_map, List.getElem?_eq_getElem hj]; rfl))) (rv_leP (xT _ _ hb) (xT _ _ hb') as))
      rw [show ((i - 1 : Nat) : Int) = (i : Int) - 1 by omega]
      exact rv_I0 (g := fun i j => V.int (i - j))
    · rintro σ' H' ⟨⟨u, v, rfl⟩, xx⟩
      refine s_when (b := false) (et_is (et_not (a := true) (et_B (ev_is (ev_allL (bs := (List.range n).map fun _ => true) ?_) (by rw [List.all_map]; simp)))) rfl) (fun z => Bool.noConfusion z) fun _ H4 x4 => k H4 (xx.trans x4)
      rw [List.map_map]
      refine el_lcA (K := K) (List.range n) (fun i => .int ((i : Nat) : Int)) _ ?_ (by rw [List.length_range]; have := co.hi; exact Nat.le_trans this (by decide)) (fun _ => rfl) fun l hl H5 x5 => ?_
      · have := ei_rng1 (K := K) (H := H') (σ := [some (.ref c), some (.int (n : Nat)), some (.ref a), u, v, none]) (n := (n : Nat)) (ea_cons (ev_var (i := 1) rfl) ea_nil) (by have := co.hi; omega) (by omega)
        rw [vInts_nat, Int.toNat_natCast] at this
        exact this
      · have hl := List.mem_range.mp hl
        refine ev_is (ev_anyL (bs := ps.map fun q => decide (q.1 = l ∨ q.2 = l)) ?_) ?_
        · rw [List.map_map]
          refine el_lcP (K := K) bs ps hp.len _ (ei_tup (ev_var rfl) (st_of ((xx.trans x5) _ _ ha))) (by have := co.most; exact Nat.le_trans this (by decide)) (fun _ => rfl) fun i b q h1 h2 H6 x6 => ?_
          have hb : H b = some (.tup (vP q)) := paired_at hp h1 h2
          refine ev_is (ev_op (ev_var rfl) (ev_var rfl) (rv_inT (neg := false) (st_of (((xx.trans x5).trans x6) _ _ hb)) rfl rfl)) ?_
          exact congrArg V.bl (in_pair q l)
        · rw [List.any_map]
          obtain ⟨p, hp, h⟩ := co.all l hl
          exact congrArg V.bl (List.any_eq_true.mpr ⟨p, hp, decide_eq_true h⟩)
end
end Kw

namespace Kw
open PySem PySem.Spec PyProof.Rows

/-! ### words as lists of places -/
def wS (u : List Nat) : Str := ⟨(u.map (97 + ·)).toArray⟩
theorem wS_list (u : List Nat) : (wS u).cps.toList = u.map (97 + ·) := by unfold wS; simp
theorem map_add_inj {u v : List Nat} (h : u.map (97 + ·) = v.map (97 + ·)) : u = v := by
  induction u generalizing v with
  | nil => cases v with
    | nil => rfl
    | cons b v => simp at h
  | cons a u ih => cases v with
    | nil => simp at h
    | cons b v =>
      simp only [List.map_cons, List.cons.injEq] at h
      rw [ih h.2, show a = b by omega]
theorem wS_inj {u v : List Nat} (h : wS u = wS v) : u = v := map_add_inj (by rw [← wS_list, ← wS_list, h])
theorem wS_eq {u v : List Nat} : decide (wS u = wS v) = decide (u = v) := decide_eq_decide.mpr ⟨wS_inj, fun h => by rw [h]⟩
theorem wS_app (u v : List Nat) : wS u ++ wS v = wS (u ++ v) := by
  show (⟨(u.map (97 + ·)).toArray ++ (v.map (97 + ·)).toArray⟩ : Str) = ⟨((u ++ v).map (97 + ·)).toArray⟩
  simp
theorem wS_len (u : List Nat) : (wS u).length = u.length := by
  show (u.map (97 + ·)).toArray.size = _
  simp
theorem wS_size (u : List Nat) : (wS u).cps.size = u.length := wS_len u
abbrev sg (a : Nat) : Str := ⟨#[97 + a]⟩
theorem sg_wS (a : Nat) : sg a = wS [a] := rfl
theorem alpha_is : ("abcdefgh" : Str) = wS (List.range 8) := by decide +kernel
theorem signs_wS (u : List Nat) : signs (wS u) = u.map fun a => L2.V.str (sg a) := by
  unfold signs
  rw [wS_list, List.map_map]
  rfl
theorem cutS_alpha {n : Nat} (h : n ≤ 8) : L2.cutS "abcdefgh" none (some (n : Nat)) = wS (List.range n) := by
  have : ∀ m ≤ 8, L2.cutS "abcdefgh" none (some (m : Nat)) = wS (List.range m) := by decide +kernel
  exact this n h
theorem mem_alpha {n a : Nat} : (97 + a ∈ (wS (List.range n)).cps.toList) ↔ a < n := by
  rw [wS_list, List.mem_map]
  constructor
  · rintro ⟨b, h1, h2⟩
    have := List.mem_range.mp h1
    omega
  · intro h
    exact ⟨a, List.mem_range.mpr h, rfl⟩
theorem lex_map {u v : List Nat} : (u.map (97 + ·)) < (v.map (97 + ·)) ↔ u < v := by
  induction u generalizing v with
  | nil => cases v with
    | nil => simp
    | cons b v => simp
  | cons a u ih => cases v with
    | nil => simp
    | cons b v =>
      rw [List.map_cons, List.map_cons, List.cons_lt_cons_iff, List.cons_lt_cons_iff, ih]
      constructor
      · rintro (h | ⟨h1, h2⟩)
        · exact .inl (by omega)
        · exact .inr ⟨by omega, h2⟩
      · rintro (h | ⟨h1, h2⟩)
        · exact .inl (by omega)
        · exact .inr ⟨by omega, h2⟩

/-! ### sums of powers -/
theorem add_bit {x e m : Nat} (h : x.testBit e = false) : (2 ^ e + x).testBit m = (x.testBit m || decide (m = e)) := by
  rcases Nat.lt_trichotomy m e with hm | hm | hm
  · rw [decide_eq_false (by omega), Bool.or_false]
    exact Nat.testBit_two_pow_add_gt hm x
  · subst hm
    rw [Nat.testBit_two_pow_add_eq, h]
    simp
  · rw [decide_eq_false (by omega), Bool.or_false]
    rw [Nat.testBit_eq_decide_div_mod_eq] at h ⊢
    rw [Nat.testBit_eq_decide_div_mod_eq]
    have h0 : x / 2 ^ e % 2 = 0 := by
      have := of_decide_eq_false h
      omega
    have e1 : (2 ^ e + x) / 2 ^ e = x / 2 ^ e + 1 := by
      rw [Nat.add_comm, Nat.add_div_right _ (Nat.two_pow_pos e)]
    obtain ⟨d, rfl⟩ : ∃ d, m = e + 1 + d := ⟨m - e - 1, by omega⟩
    rw [Nat.pow_add, ← Nat.div_div_eq_div_mul, Nat.pow_succ, ← Nat.div_div_eq_div_mul, e1, ← Nat.div_div_eq_div_mul, ← Nat.div_div_eq_div_mul]
    rw [show (x / 2 ^ e + 1) / 2 = x / 2 ^ e / 2 by omega]
def psum (es : List Nat) : Nat := (es.map (2 ^ ·)).sum
theorem psum_bit {es : List Nat} (h : es.Nodup) {m : Nat} : (psum es).testBit m = decide (m ∈ es) := by
  induction es generalizing m with
  | nil => simp [psum]
  | cons e t ih =>
    obtain ⟨h1, h2⟩ := List.nodup_cons.mp h
    have := ih h2 (m := e)
    rw [decide_eq_false h1] at this
    show (2 ^ e + psum t).testBit m = _
    rw [add_bit this, ih h2, ← Bool.decide_or]
    exact decide_eq_decide.mpr ⟨fun h => by simpa [or_comm] using h, fun h => by simpa [or_comm] using h⟩
theorem testBit_ext {x y : Nat} (h : ∀ i, x.testBit i = y.testBit i) : x = y := Nat.eq_of_testBit_eq h

/-! ### friends -/
def neigh (ps : List (Nat × Nat)) (l : Nat) : List Nat := ps.flatMap fun p => (if p.1 = l then [p.2] else []) ++ (if p.2 = l then [p.1] else [])
def fm (ps : List (Nat × Nat)) (l : Nat) : Nat := psum (neigh ps l)
def fr (ps : List (Nat × Nat)) (a b : Nat) : Bool := decide ((min a b, max a b) ∈ ps)
theorem mem_neigh {ps : List (Nat × Nat)} {l m : Nat} : m ∈ neigh ps l ↔ (l, m) ∈ ps ∨ (m, l) ∈ ps := by
  unfold neigh
  rw [List.mem_flatMap]
  constructor
  · rintro ⟨p, hp, h⟩
    rw [List.mem_append] at h
    rcases h with h | h
    · by_cases e : p.1 = l
      · rw [if_pos e, List.mem_singleton] at h
        rw [h, ← e]
        exact .inl hp
      · rw [if_neg e] at h
        cases h
    · by_cases e : p.2 = l
      · rw [if_pos e, List.mem_singleton] at h
        rw [h, ← e]
        exact .inr hp
      · rw [if_neg e] at h
        cases h
  · rintro (h | h)
    · exact ⟨_, h, by rw [if_pos rfl]; simp⟩
    · exact ⟨_, h, by rw [List.mem_append, if_pos (c := (m, l).2 = l) rfl]; right; simp⟩
theorem Co.nodup {n : Nat} {ps : List (Nat × Nat)} (c : Co n ps) : ps.Nodup := c.asc.imp fun h e => by subst e; omega
theorem neigh_nodup {ps : List (Nat × Nat)} (lt : ∀ p ∈ ps, p.1 < p.2) (nd : ps.Nodup) (l : Nat) : (neigh ps l).Nodup := by
  induction ps with
  | nil => exact List.nodup_nil
  | cons p t ih =>
    obtain ⟨h1, h2⟩ := List.nodup_cons.mp nd
    have it := ih (fun q hq => lt q (List.mem_cons_of_mem _ hq)) h2
    have hp := lt p List.mem_cons_self
    show (((if p.1 = l then [p.2] else []) ++ (if p.2 = l then [p.1] else [])) ++ neigh t l).Nodup
    have hn : ∀ m, (p = (l, m) ∨ p = (m, l)) → m ∉ neigh t l := by
      intro m e hm
      rcases mem_neigh.mp hm with h | h
      · rcases e with e | e
        · rw [e] at h1
          exact h1 h
        · have := lt _ (List.mem_cons_of_mem p h)
          rw [e] at hp
          simp only at this hp
          omega
      · rcases e with e | e
        · have := lt _ (List.mem_cons_of_mem p h)
          rw [e] at hp
          simp only at this hp
          omega
        · rw [e] at h1
          exact h1 h
    by_cases e1 : p.1 = l
    · have e2 : ¬ p.2 = l := by omega
      rw [if_pos e1, if_neg e2, List.append_nil]
      exact List.nodup_cons.mpr ⟨hn _ (.inl (by rw [← e1])), it⟩
    · by_cases e2 : p.2 = l
      · rw [if_neg e1, if_pos e2, List.nil_append]
        exact List.nodup_cons.mpr ⟨hn _ (.inr (by rw [← e2])), it⟩
      · rw [if_neg e1, if_neg e2]
        exact it
section
variable {n : Nat} {ps : List (Nat × Nat)}
theorem fm_bit (c : Co n ps) (a b : Nat) : (fm ps a).testBit b = fr ps a b := by
  unfold fm
  rw [psum_bit (neigh_nodup (fun p hp => (c.lt p hp).1) c.nodup a)]
  unfold fr
  refine decide_eq_decide.mpr ⟨fun h => ?_, fun h => ?_⟩
  · rcases mem_neigh.mp h with h | h
    · have := (c.lt _ h).1
      simp only at this
      rw [Nat.min_eq_left (by omega), Nat.max_eq_right (by omega)]
      exact h
    · have := (c.lt _ h).1
      simp only at this
      rw [Nat.min_eq_right (by omega), Nat.max_eq_left (by omega)]
      exact h
  · rcases Nat.le_total a b with e | e
    · rw [Nat.min_eq_left e, Nat.max_eq_right e] at h
      exact mem_neigh.mpr (.inl h)
    · rw [Nat.min_eq_right e, Nat.max_eq_left e] at h
      exact mem_neigh.mpr (.inr h)
theorem fr_comm (a b : Nat) : fr ps a b = fr ps b a := by
  unfold fr
  rw [Nat.min_comm, Nat.max_comm]
theorem fr_self (c : Co n ps) (a : Nat) : fr ps a a = false := by
  unfold fr
  refine decide_eq_false fun h => ?_
  have := (c.lt _ h).1
  simp only [Nat.min_self, Nat.max_self] at this
  omega
theorem fr_lt (c : Co n ps) {a b : Nat} (h : fr ps a b = true) : a < n ∧ b < n := by
  have h := of_decide_eq_true h
  have := (c.lt _ h)
  simp only at this
  omega
/-- masks stay small -/
theorem lt_of_bits {x k : Nat} (h : ∀ i, k ≤ i → x.testBit i = false) : x < 2 ^ k := Nat.lt_pow_two_of_testBit x h
theorem fm_lt (c : Co n ps) (a : Nat) : fm ps a < 256 := lt_of_bits (k := 8) fun i hi => by
  rw [fm_bit c]
  cases h : fr ps a i with
  | false => rfl
  | true =>
    have := fr_lt c h
    have := c.hi
    omega
end
/-! ### places that follow each other -/
def adj (f : Nat → Nat → Bool) : List Nat → Bool
  | a :: b :: t => f a b && adj f (b :: t)
  | _ => true
end Kw

namespace Kw
open PySem PySem.Spec PyProof.Rows L2 Evl

/-- s.index(y), y is there -/
def rIndex1 : V → List V → Hp → VK → Prop := fun x xs H Q => ∃ (a b : Str) (k : Nat), x = .str a ∧ xs = [.str b] ∧ Txt.index0 a b = some k ∧ Q (.int (k : Nat)) H
theorem mt_index1 {X : Cx} : MtR X "str.index" rIndex1 := by
  intro pins s σ H x xs v us Q I rx rs h
  obtain ⟨a, b, k, rfl, rfl, hk, w⟩ := h
  obtain ⟨t, rfl⟩ := rx
  cases rs with
  | cons r1 rs =>
    cases rs
    obtain ⟨u, rfl⟩ := r1
    cases q : Builtin.Str.occurrences a b 0 a.length 1 with
    | nil =>
      unfold Txt.index0 at hk
      rw [q] at hk
      cases hk
    | cons k' rest =>
      unfold Txt.index0 at hk
      rw [q] at hk
      obtain rfl : k' = k := by simpa using hk
      exact PySem.SC.index q ⟨.int (k' : Nat), H, I.tok _, ⟨_, rfl⟩, w⟩
theorem index_alpha {a : Nat} (h : a < 8) : Txt.index0 ("abcdefgh" : Str) (sg a) = some a := by
  have : ∀ m < 8, Txt.index0 ("abcdefgh" : Str) (sg m) = some m := by decide +kernel
  exact this a h
section
variable {K : PySem.W.Frag} {σ : L2.St} {H : Hp} {te ta : TE} {tl th : TO} {z : Str}
theorem ev_slS {lo hi : Option Int} (h : Ev te σ H (.str z)) (h1 : EvO tl σ H lo) (h2 : EvO th σ H hi) (hz : z.length ≤ sizeLine) : Ev (tSl rSlS te tl th) σ H (.str (cutS z lo hi)) := fun H1 e Q q =>
  h H1 e _ fun H2 e2 => h1 H2 (e.trans e2) _ fun H3 e3 => h2 H3 ((e.trans e2).trans e3) _ fun H4 e4 => ⟨z, rfl, hz, q H4 ((e2.trans e3).trans e4)⟩
def rLenZ : List V → Hp → VK → Prop := fun xs H Q => ∃ z, xs = [.str z] ∧ z.length ≤ sizeLine ∧ Q (.int z.length) H
theorem ev_lenS {u : List Nat} (h : Ev te σ H (.str (wS u))) (hu : u.length ≤ sizeLine) : Ev (tCB rLenZ (tCons te tNil)) σ H (.int (u.length : Nat)) := ev_is (ev_cb (z := .int ((wS u).length : Nat)) (ea_cons h ea_nil) fun H1 e Q q => ⟨wS u, rfl, by rw [wS_len]; exact hu, q H1 (Ex.refl _)⟩) (by rw [wS_len])
def rInZ : R2 := fun x y H Q => ∃ (c : Nat) (z : Str), x = .str ⟨#[c]⟩ ∧ y = .str z ∧ Q (.bl (decide (c ∈ z.cps.toList))) H
theorem rv_inS {a : Nat} {u : List Nat} : RV rInZ (.str (sg a)) (.str (wS u)) H (.bl (decide (a ∈ u))) := fun H1 e Q q => ⟨97 + a, wS u, rfl, rfl, by
  have : decide (97 + a ∈ (wS u).cps.toList) = decide (a ∈ u) := by
    refine decide_eq_decide.mpr ?_
    rw [wS_list, List.mem_map]
    exact ⟨fun ⟨b, h1, h2⟩ => by rwa [show a = b by omega], fun h => ⟨a, h, rfl⟩⟩
  rw [this]
  exact q H1 (Ex.refl _)⟩
theorem ev_indexS {a : Nat} (ho : Ev ta σ H (.str "abcdefgh")) (h : Ev te σ H (.str (sg a))) (ha : a < 8) : Ev (tBM K "str" rIndex1 ta (tCons te tNil)) σ H (.int (a : Nat)) := fun H1 e Q q =>
  ho H1 e _ fun H2 e2 => ⟨rfl, h H2 (e.trans e2) _ fun H3 e3 => ⟨_, sg a, a, rfl, rfl, index_alpha ha, q H3 (e2.trans e3)⟩⟩
theorem rv_shl {x a : Nat} (h : a < 64) (hx : x < 2 ^ 64) : RV (rI CPow fun i j => .int (i * 2 ^ j.toNat)) (.int (x : Nat)) (.int (a : Nat)) H (.int ((x * 2 ^ a : Nat) : Int)) := fun H1 e Q q => ⟨(x : Nat), (a : Nat), rfl, rfl, ⟨by omega, by omega, by omega⟩, by
  show Q (.int ((x : Int) * 2 ^ ((a : Int)).toNat)) H1
  rw [Int.toNat_natCast, show ((x : Int) * 2 ^ a) = ((x * 2 ^ a : Nat) : Int) by rw [Int.natCast_mul, Int.natCast_pow]; rfl]
  exact q H1 (Ex.refl _)⟩
theorem rv_shl1 {a : Nat} (h : a < 64) : RV (rI CPow fun i j => .int (i * 2 ^ j.toNat)) (.int 1) (.int (a : Nat)) H (.int ((2 ^ a : Nat) : Int)) := by
  have := rv_shl (x := 1) (H := H) h (by decide)
  rwa [Nat.one_mul] at this
theorem ev_sumL {ns : List Int} (h : EvL te σ H (ns.map V.int)) : Ev (tCB (rSum K) (tCons te tNil)) σ H (.int ns.sum) := fun H1 e Q q => h H1 e _ fun p H2 _ e2 hp => ⟨p, ns, rfl, sq_of hp, q H2 e2⟩
end
end Kw

namespace Kw
open PySem PySem.Spec PyProof.Rows L2 Evl

structure Ki (n : Nat) (ls : List Nat) (s : Nat) : Prop where
  asc : ls.Pairwise (· < ·)
  lt : ∀ a ∈ ls, a < n
  s : s = 0 ∨ s = 1
def KiAt (H : Hp) (k : Addr) (ls : List Nat) (s : Nat) : Prop := H k = some (.tup [.str (wS ls), .int (s : Nat)])
theorem KiAt.mono {H H' : Hp} {k : Addr} {ls : List Nat} {s : Nat} (t : Tu H H') (h : KiAt H k ls s) : KiAt H' k ls s := t _ _ h
theorem asc_len {ls : List Nat} {n : Nat} (h : ls.Pairwise (· < ·)) (lt : ∀ a ∈ ls, a < n) : ls.length ≤ n := by
  have : ∀ (ls : List Nat) (k : Nat), ls.Pairwise (· < ·) → (∀ a ∈ ls, k ≤ a ∧ a < n) → k + ls.length ≤ max k n := by
    intro ls
    induction ls with
    | nil => intro k _ _; simp; omega
    | cons a t ih =>
      intro k h lt
      obtain ⟨h1, h2⟩ := List.pairwise_cons.mp h
      have h3 := ih (a + 1) h2 fun b hb => ⟨h1 b hb, (lt b (List.mem_cons_of_mem _ hb)).2⟩
      have h4 := lt a List.mem_cons_self
      rw [List.length_cons]
      omega
  have := this ls 0 h fun a ha => ⟨Nat.zero_le _, lt a ha⟩
  omega
def spIsWord : Sp := fun vs H Q _ => ∃ (c : Addr) (n : Nat) (ps : List (Nat × Nat)) (u : List Nat) (m : Nat), vs = [.ref c, .str (wS u), .int m] ∧ Co n ps ∧ CoAt H c n ps ∧ (∀ a ∈ u, a < n) ∧ 1 ≤ u.length ∧ u.length ≤ m ∧ m ≤ 60 ∧ RetV (.bl true) H Q
def spNeedWord : Sp := fun vs H Q _ => ∃ (c : Addr) (n : Nat) (ps : List (Nat × Nat)) (u : List Nat), vs = [.ref c, .str (wS u)] ∧ Co n ps ∧ CoAt H c n ps ∧ (∀ a ∈ u, a < n) ∧ 1 ≤ u.length ∧ u.length ≤ 60 ∧ RetV .non H Q
def spNeedLetter : Sp := fun vs H Q _ => ∃ (c : Addr) (n : Nat) (ps : List (Nat × Nat)) (a : Nat), vs = [.ref c, .str (sg a)] ∧ Co n ps ∧ CoAt H c n ps ∧ a < n ∧ RetV .non H Q
def spIsSet : Sp := fun vs H Q _ => ∃ (c : Addr) (n : Nat) (ps : List (Nat × Nat)) (u : List Nat), vs = [.ref c, .str (wS u)] ∧ Co n ps ∧ CoAt H c n ps ∧ (∀ a ∈ u, a < n) ∧ u.Pairwise (· < ·) ∧ RetV (.bl true) H Q
def spIsKind : Sp := fun vs H Q _ => ∃ (c : Addr) (n : Nat) (ps : List (Nat × Nat)) (k : Addr) (u : List Nat) (s : Nat), vs = [.ref c, .ref k] ∧ Co n ps ∧ CoAt H c n ps ∧ KiAt H k u s ∧ Ki n u s ∧ RetV (.bl true) H Q
def spNeedKind : Sp := fun vs H Q _ => ∃ (c : Addr) (n : Nat) (ps : List (Nat × Nat)) (k : Addr) (u : List Nat) (s : Nat), vs = [.ref c, .ref k] ∧ Co n ps ∧ CoAt H c n ps ∧ KiAt H k u s ∧ Ki n u s ∧ RetV .non H Q
def spMaskOf : Sp := fun vs H Q _ => ∃ (u : List Nat), vs = [.str (wS u)] ∧ (∀ a ∈ u, a < 8) ∧ u.length ≤ 8 ∧ RetV (.int (psum u : Nat)) H Q
section
variable {P : Program} {w : World} {K : PySem.W.Frag} {mg : Str → Option Value} {base : Heap} {σ : L2.St} {H : Hp}
theorem ev_co0 {te : TE} {c : Addr} {n : Nat} {ps : List (Nat × Nat)} (h : Ev te σ H (.ref c)) (hc : CoAt H c n ps) : Ev (tOp (rIxT K) te (tC (.int 0))) σ H (.int (n : Nat)) := by
  obtain ⟨a, bs, h1, _⟩ := hc
  exact ev_op h ev_c (rv_ixP (j := 0) h1 rfl)
theorem ev_alphaN {ta te : TE} {n : Nat} (ha : Ev ta σ H (.str "abcdefgh")) (h : Ev te σ H (.int (n : Nat))) (hn : n ≤ 8) : Ev (tSl rSlS ta tNoPart (tPart te)) σ H (.str (wS (List.range n))) :=
  ev_is (ev_slS ha eo_none (eo_some h) (show 8 ≤ sizeLine by decide)) (congrArg V.str (cutS_alpha hn))
theorem ev_allT {te : TE} {α : Type} {us : List α} (h : EvL te σ H (us.map fun _ => .bl true)) : Ev (tCB (rAll K) (tCons te tNil)) σ H (.bl true) :=
  ev_is (ev_allL (bs := us.map fun _ => true) (by rw [List.map_map]; exact h)) (by rw [List.all_map]; simp)
theorem ei_wS {te : TE} {u : List Nat} (h : Ev te σ H (.str (wS u))) : EvI K (iStr te) σ H (u.map fun a => .str (sg a)) := by rw [← signs_wS]; exact ei_str h
theorem ev_wSat {te ti : TE} {u : List Nat} {i a : Nat} (h : Ev te σ H (.str (wS u))) (hi : Ev ti σ H (.int (i : Nat))) (ha : u[i]? = some a) (hz : u.length ≤ sizeLine) : Ev (tOp rIxS te ti) σ H (.str (sg a)) :=
  ev_op h hi fun H1 e Q q => ⟨wS u, i, 97 + a, rfl, rfl, by rw [wS_len]; exact hz, by rw [wS_list, atI_nat (by rw [List.getElem?_map, ha]; rfl)], q H1 (Ex.refl _)⟩
theorem sg_lt {a b : Nat} (h : a < b) : (sg a).cps.toList < (sg b).cps.toList := by
  show [97 + a] < [97 + b]
  rw [List.cons_lt_cons_iff]
  exact .inl (by omega)
theorem psum_cast {u : List Nat} : (u.map fun a => ((2 ^ a : Nat) : Int)).sum = ((psum u : Nat) : Int) := by
  induction u with
  | nil => rfl
  | cons a t ih =>
    rw [List.map_cons, List.sum_cons, ih]
    show _ = ((2 ^ a + psum t : Nat) : Int)
    rw [Int.natCast_add]
theorem ok_is_word {f : Addr} {fd : FuncData} (D : Df K mg "is_word" s_is_word ["company", "value", "most"] f fd) (B : Bt mg) : FnOk P w K mg base CX0 1 f fd ["company", "value", "most"] spIsWord := by
  refine D.F.ok sc_is_word (fun vs H Q E h => ?_) (fun cdv A outer s H vs Q E hr h => ?_)
  · obtain ⟨c, n, ps, u, m, rfl, _⟩ := h
    rfl
  · obtain ⟨c, n, ps, u, m, rfl, co, hc, hu, h1, h2, h3, k⟩ := h
    have nd := sc_is_word.nd
    refine ⟨_, (pss_cons (ps_if (PW.pt (pw_or (pt_not (pt_val (pe_callB call_isi (by rfl) B.isinstance boot_isinstance (pa_cons (pv 1) (pa_cons (pe_bltn (v := .ty "str") (by rfl) B.str (by decide +kernel) rfl) pa_nil))))) (pw_or1 (pt_not (pt_chain op_le op_le pe_int (pe_callB call_len_str (by rfl) B.len PySem.boot_len (pa_cons (pv 1) pa_nil)) (pv 2)))))) (pss_one (ps_ret pe_bl)) pss_nil)
      (pss_one (ps_ret (pe_callB (cr_all rfl) (by rfl) B.all (by decide +kernel) (pa_cons (pe_lc (own := [("sign", 3)]) (tt := tYes) rfl nd (pi_str (pv 1)) (blkOk_by (N := ["company", "value", "most", "sign"]) (sc := (defScope s_is_word)) (by decide +kernel)) (fun _ _ _ _ _ => (pg_name (i := 3) nd rfl (Or.inl rfl))) (fun _ _ _ _ _ => pts_nil)
        (fun _ _ _ _ _ => (pe_cmpR op_in_sign (pv 3) (pe_slice sl_str (pg_alpha B rfl) po_none (po_some (pe_ix (r := rIxT K) ix_tup (pv 0) pe_int (fun _ _ => rfl)))) rfl))) pa_nil))))), ?_⟩
    have z : u.length ≤ sizeLine := Nat.le_trans (Nat.le_trans h2 h3) (by decide)
    refine q_when (b := false) (et_is (et_or (et_not (a := true) (et_B (ev_isi (t := .none) (ev_var rfl) (fun H' _ => .base (.str _)) (by decide +kernel)))) fun _ => et_not (a := true) (et_B (ev_is (ev_chain ev_c (ev_lenS (ev_var rfl) z) rv_I0 (fun _ => ev_var rfl) (fun _ => rv_I0)) (by rw [decide_eq_true (by omega), decide_eq_true (by omega)]; rfl)))) rfl) (fun z => Bool.noConfusion z) fun _ H1 e1 => ?_
    refine s_ret (ev_allT (us := u) (el_lcA (K := K) u (fun a => .str (sg a)) _ (ei_wS (ev_var rfl)) z (fun _ => rfl) fun a ha H2 e2 => ?_)) fun H2 e2 => k H2 (e1.trans e2)
    exact ev_is (ev_op (ev_var rfl) (ev_alphaN ev_c (ev_co0 (ev_var rfl) (hc.mono (tu_ex (e1.trans e2)))) co.hi) rv_inS) (congrArg V.bl (decide_eq_true (List.mem_range.mpr (hu a ha))))
theorem ok_need_word {f fI : Addr} {fd fdI : FuncData} (D : Df K mg "need_word" s_need_word ["company", "word"] f fd) (B : Bt mg)
    (DI : Df K mg "is_word" s_is_word ["company", "value", "most"] fI fdI) (GI : FnOk P w K mg base CX0 1 fI fdI ["company", "value", "most"] spIsWord) : FnOk P w K mg base CX0 2 f fd ["company", "word"] spNeedWord := by
  refine D.F.ok sc_need_word (fun vs H Q E h => ?_) (fun cdv A outer s H vs Q E hr h => ?_)
  · obtain ⟨c, n, ps, u, rfl, _⟩ := h
    rfl
  · obtain ⟨c, n, ps, u, rfl, co, hc, hu, h1, h2, k⟩ := h
    have nd := sc_need_word.nd
    refine ⟨_, (pss_one (ps_if (pt_not (pt_val (pcall DI GI hr (pa_cons (pv 0) (pa_cons (pv 1) (pa_cons (pg_word B rfl) pa_nil)))))) (pss_one ps_never) pss_nil)), ?_⟩
    exact s_when (b := false) (et_not (a := true) (et_B (ev_call (vs := [.ref c, .str (wS u), .int (60 : Nat)]) (ea_cons (ev_var rfl) (ea_cons (ev_var rfl) (ea_cons ev_c ea_nil))) fun H1 e1 Q' q' E' => ⟨c, n, ps, u, 60, rfl, co, hc.mono (tu_ex e1), hu, h1, h2, Nat.le_refl _, q'⟩))) (fun z => Bool.noConfusion z) (fun _ H1 e1 => k H1 e1)
theorem ok_need_letter {f fI : Addr} {fd fdI : FuncData} (D : Df K mg "need_letter" s_need_letter ["company", "letter"] f fd) (B : Bt mg)
    (DI : Df K mg "is_word" s_is_word ["company", "value", "most"] fI fdI) (GI : FnOk P w K mg base CX0 1 fI fdI ["company", "value", "most"] spIsWord) : FnOk P w K mg base CX0 2 f fd ["company", "letter"] spNeedLetter := by
  refine D.F.ok sc_need_letter (fun vs H Q E h => ?_) (fun cdv A outer s H vs Q E hr h => ?_)
  · obtain ⟨c, n, ps, a, rfl, _⟩ := h
    rfl
  · obtain ⟨c, n, ps, a, rfl, co, hc, ha, k⟩ := h
    have nd := sc_need_letter.nd
    refine ⟨_, (pss_one (ps_if (pt_not (pt_val (pcall DI GI hr (pa_cons (pv 0) (pa_cons (pv 1) (pa_cons pe_int pa_nil)))))) (pss_one ps_never) pss_nil)), ?_⟩
    exact s_when (b := false) (et_not (a := true) (et_B (ev_call (vs := [.ref c, .str (sg a), .int (1 : Nat)]) (ea_cons (ev_var rfl) (ea_cons (ev_var rfl) (ea_cons ev_c ea_nil))) fun H1 e1 Q' q' E' => ⟨c, n, ps, [a], 1, rfl, co, hc.mono (tu_ex e1), by simpa using ha, Nat.le_refl _, Nat.le_refl _, by decide, q'⟩))) (fun z => Bool.noConfusion z) (fun _ H1 e1 => k H1 e1)
theorem ok_is_set {f : Addr} {fd : FuncData} (D : Df K mg "is_set" s_is_set ["company", "value"] f fd) (B : Bt mg) : FnOk P w K mg base CX0 1 f fd ["company", "value"] spIsSet := by
  refine D.F.ok sc_is_set (fun vs H Q E h => ?_) (fun cdv A outer s H vs Q E hr h => ?_)
  · obtain ⟨c, n, ps, u, rfl, _⟩ := h
    rfl
  · obtain ⟨c, n, ps, u, rfl, co, hc, hu, ha, k⟩ := h
    have nd := sc_is_set.nd
    refine ⟨_, (pss_cons (ps_if (PW.pt (pw_or (pt_not (pt_val (pe_callB call_isi (by rfl) B.isinstance boot_isinstance (pa_cons (pv 1) (pa_cons (pe_bltn (v := .ty "str") (by rfl) B.str (by decide +kernel) rfl) pa_nil))))) (pw_or1 (pt_cmpR op_gt (pe_callB call_len_str (by rfl) B.len PySem.boot_len (pa_cons (pv 1) pa_nil)) (pe_ix ix_tup (pv 0) pe_int (fun _ _ => rfl)) (nomark _))))) (pss_one (ps_ret pe_bl)) pss_nil)
      (pss_cons (ps_if (pt_not (pt_val (pe_callB (cr_all rfl) (by rfl) B.all (by decide +kernel) (pa_cons (pe_lc (own := [("sign", 2)]) (tt := tYes) rfl nd (pi_str (pv 1)) (blkOk_by (N := ["company", "value", "sign", "at"]) (sc := (defScope s_is_set)) (by decide +kernel)) (fun _ _ _ _ _ => (pg_name (i := 2) nd rfl (Or.inl rfl))) (fun _ _ _ _ _ => pts_nil)
        (fun _ _ _ _ _ => (pe_cmpR op_in_sign (pv 2) (pe_slice sl_str (pg_alpha B rfl) po_none (po_some (pe_ix (r := rIxT K) ix_tup (pv 0) pe_int (fun _ _ => rfl)))) rfl))) pa_nil)))) (pss_one (ps_ret pe_bl)) pss_nil)
      (pss_one (ps_ret (pe_callB (cr_all rfl) (by rfl) B.all (by decide +kernel) (pa_cons (pe_lc (own := [("at", 3)]) (tt := tYes) rfl nd (pi_range1 rfl B.range (pa_cons (pe_op op_sub (pe_callB call_len_str (by rfl) B.len PySem.boot_len (pa_cons (pv 1) pa_nil)) pe_int) pa_nil)) (blkOk_by (N := ["company", "value", "sign", "at"]) (sc := (defScope s_is_set)) (by decide +kernel)) (fun _ _ _ _ _ => (pg_name (i := 3) nd rfl (Or.inl rfl))) (fun _ _ _ _ _ => pts_nil)
        (fun _ _ _ _ _ => (pe_cmpR op_lt_str (pe_ix (r := rIxS) ix_str (pv 1) (pv 3) (fun _ _ => rfl)) (pe_ix (r := rIxS) ix_str (pv 1) (pe_op op_add (pv 3) pe_int) (fun _ _ => rfl)) (nomark _)))) pa_nil)))))), ?_⟩
    have hl := asc_len ha hu
    have h8 := co.hi
    have z : u.length ≤ sizeLine := Nat.le_trans hl (Nat.le_trans co.hi (by decide))
    refine q_when (b := false) (et_is (et_or (et_not (a := true) (et_B (ev_isi (t := .none) (ev_var rfl) (fun H' _ => .base (.str _)) (by decide +kernel)))) fun _ => et_test (ev_op (ev_lenS (ev_var rfl) z) (ev_co0 (ev_var rfl) hc) rv_I0)) (by rw [decide_eq_false (by omega)]; rfl)) (fun z => Bool.noConfusion z) fun _ H1 e1 => ?_
    refine q_when (b := false) (et_not (a := true) (et_B (ev_allT (us := u) (el_lcA (K := K) u (fun a => .str (sg a)) _ (ei_wS (ev_var rfl)) z (fun _ => rfl) fun a ha H2 e2 => ?_)))) (fun z => Bool.noConfusion z) fun _ H2 e2 => ?_
    · exact ev_is (ev_op (ev_var rfl) (ev_alphaN ev_c (ev_co0 (ev_var rfl) (hc.mono (tu_ex (e1.trans e2)))) co.hi) rv_inS) (congrArg V.bl (decide_eq_true (List.mem_range.mpr (hu a ha))))
    refine s_ret (ev_allT (us := List.range (u.length - 1)) (el_lcA (K := K) (List.range (u.length - 1)) (fun i => .int ((i : Nat) : Int)) _ ?_ (by rw [List.length_range]; omega) (fun _ => rfl) fun i hi H3 e3 => ?_)) fun H3 e3 => k H3 ((e1.trans e2).trans e3)
    · have := ei_rng1 (K := K) (H := H2) (n := (u.length : Int) - 1) (ea_cons (ev_op (ev_lenS (ev_var (σ := start ["company","value","sign","at"] [.ref c, .str (wS u)]) (i := 1) rfl) z) ev_c (rv_I0 (g := fun i j => V.int (i - j)))) ea_nil) (by omega) (by omega)
      rw [vInts_nat, show ((u.length : Int) - 1).toNat = u.length - 1 by omega] at this
      exact this
    · have hi := List.mem_range.mp hi
      have l := List.pairwise_iff_getElem.mp ha i (i + 1) (by omega) (by omega) (by omega)
      have ea := ev_wSat (te := tVar 1) (ti := tVar 3) (σ := [some (.ref c), some (.str (wS u)), none, some (.int (i : Nat))]) (H := H3) (i := i) (a := u[i]'(by omega)) (ev_var rfl) (ev_var rfl) (List.getElem?_eq_getElem (by omega)) z
      have eb := ev_wSat (te := tVar 1) (ti := tOp (rI0 fun i j => .int (i + j)) (tVar 3) (tC (.int 1))) (σ := [some (.ref c), some (.str (wS u)), none, some (.int (i : Nat))]) (H := H3) (i := i + 1) (a := u[i + 1]'(by omega)) (ev_var rfl) (ev_is (ev_op (ev_var rfl) ev_c rv_I0) (by rfl)) (List.getElem?_eq_getElem (by omega)) z
      refine ev_op ea eb fun H4 e4 Q' q' => ⟨_, _, rfl, rfl, ?_⟩
      rw [show decide ((sg (u[i]'(by omega))).cps.toList < (sg (u[i + 1]'(by omega))).cps.toList) = true from decide_eq_true (sg_lt l)]
      exact q' H4 (Ex.refl _)
theorem ok_is_kind {f fT  fS  fW : Addr} {fd fdT  fdS  fdW : FuncData} (D : Df K mg "is_kind" s_is_kind ["company", "value"] f fd) (B : Bt mg)
    (DT : Df K mg "tuple_of" s_tuple_of ["value", "low", "high"] fT fdT) (GT : FnOk P w K mg base CX0 1 fT fdT ["value", "low", "high"] (spTupleOf K))
    (DS : Df K mg "is_set" s_is_set ["company", "value"] fS fdS) (GS : FnOk P w K mg base CX0 1 fS fdS ["company", "value"] spIsSet)
    (DW : Df K mg "within" s_within ["value", "low", "high"] fW fdW) (GW : FnOk P w K mg base CX0 2 fW fdW ["value", "low", "high"] spWithin) : FnOk P w K mg base CX0 3 f fd ["company", "value"] spIsKind := by
  refine D.F.ok sc_is_kind (fun vs H Q E h => ?_) (fun cdv A outer s H vs Q E hr h => ?_)
  · obtain ⟨c, n, ps, g, u, s, rfl, _⟩ := h
    rfl
  · obtain ⟨c, n, ps, g, u, s, rfl, co, hc, hk, ki, k⟩ := h
    have nd := sc_is_kind.nd
    refine ⟨_, (pss_one (ps_ret (pe_and (pcall DT GT (hr.mono (by decide)) (pa_cons (pv 1) (pa_cons pe_int (pa_cons pe_int pa_nil)))) (pe_and (pcall DS GS (hr.mono (by decide)) (pa_cons (pv 0) (pa_cons (pe_ix ix_tup (pv 1) pe_int (fun _ _ => rfl)) pa_nil))) (pe_one (pcall DW GW hr (pa_cons (pe_ix ix_tup (pv 1) pe_int (fun _ _ => rfl)) (pa_cons pe_int (pa_cons pe_int pa_nil))))))))), ?_⟩
    have hs := ki.s
    refine s_ret (ev_is (ev_andV (a := true) (b := true) (ev_tupleOf (ea_cons (ev_var rfl) (ea_cons ev_c (ea_cons ev_c ea_nil))) hk (Int.le_refl 2) (Int.le_refl 2)) fun _ => ev_is (ev_andV (a := true) (b := true) (ev_call (vs := [.ref c, .str (wS u)]) (ea_cons (ev_var rfl) (ea_cons (ev_op (ev_var rfl) ev_c (rv_ixP (j := 0) hk rfl)) ea_nil)) fun H1 e1 Q' q' E' => ⟨c, n, ps, u, rfl, co, hc.mono (tu_ex e1), ki.lt, ki.asc, q'⟩) fun _ =>
      ev_within (ea_cons (ev_op (ev_var rfl) ev_c (rv_ixP (j := 1) hk rfl)) (ea_cons ev_c (ea_cons ev_c ea_nil))) (by omega) (by omega)) rfl) rfl) k
theorem ok_need_kind {f fS : Addr} {fd fdS : FuncData} (D : Df K mg "need_kind" s_need_kind ["company", "kind"] f fd) (B : Bt mg)
    (DS : Df K mg "is_kind" s_is_kind ["company", "value"] fS fdS) (GS : FnOk P w K mg base CX0 3 fS fdS ["company", "value"] spIsKind) : FnOk P w K mg base CX0 4 f fd ["company", "kind"] spNeedKind := by
  refine D.F.ok sc_need_kind (fun vs H Q E h => ?_) (fun cdv A outer s H vs Q E hr h => ?_)
  · obtain ⟨c, n, ps, g, u, s, rfl, _⟩ := h
    rfl
  · obtain ⟨c, n, ps, g, u, s, rfl, co, hc, hk, ki, k⟩ := h
    have nd := sc_need_kind.nd
    refine ⟨_, (pss_one (ps_if (pt_not (pt_val (pcall DS GS hr (pa_cons (pv 0) (pa_cons (pv 1) pa_nil))))) (pss_one ps_never) pss_nil)), ?_⟩
    exact s_when (b := false) (et_not (a := true) (et_B (ev_call (vs := [.ref c, .ref g]) (ea_cons (ev_var rfl) (ea_cons (ev_var rfl) ea_nil)) fun H1 e1 Q' q' E' => ⟨c, n, ps, g, u, s, rfl, co, hc.mono (tu_ex e1), hk.mono (tu_ex e1), ki, q'⟩))) (fun z => Bool.noConfusion z) (fun _ H1 e1 => k H1 e1)
theorem ok_mask_of {f : Addr} {fd : FuncData} (D : Df K mg "mask_of" s_mask_of ["letters"] f fd) (B : Bt mg) : FnOk P w K mg base CX0 1 f fd ["letters"] spMaskOf := by
  refine D.F.ok sc_mask_of (fun vs H Q E h => ?_) (fun cdv A outer s H vs Q E hr h => ?_)
  · obtain ⟨u, rfl, _⟩ := h
    rfl
  · obtain ⟨u, rfl, hu, hl, k⟩ := h
    have nd := sc_mask_of.nd
    refine ⟨_, (pss_one (ps_ret (pe_callB (cr_sum rfl) (by rfl) B.sum (by decide +kernel) (pa_cons (pe_lc (own := [("sign", 1)]) (tt := tYes) rfl nd (pi_str (pv 0)) (blkOk_by (N := ["letters", "sign"]) (sc := (defScope s_mask_of)) (by decide +kernel)) (fun _ _ _ _ _ => (pg_name (i := 1) nd rfl (Or.inl rfl))) (fun _ _ _ _ _ => pts_nil)
        (fun _ _ _ _ _ => (pe_op (ta := tC (.int 1)) (tb := tBM K "str" rIndex1 (tC (.str "abcdefgh")) (tCons (tVar 1) tNil)) op_shl pe_int (pe_bm (r := rIndex1) PySem.F.plainAttrs_str PySem.F.slot_str_index PySem.F.type_str_index mt_index1 (pg_alpha B rfl) (pa_cons (pv 1) pa_nil))))) pa_nil)))), ?_⟩
    have z : u.length ≤ sizeLine := Nat.le_trans hl (by decide)
    refine s_ret (ev_is (ev_sumL (ns := u.map fun a => ((2 ^ a : Nat) : Int)) ?_) ?_) k
    · rw [List.map_map]
      refine el_lcA (K := K) u (fun a => .str (sg a)) _ (ei_wS (ev_var rfl)) z (fun _ => rfl) fun a ha H2 e2 => ?_
      exact ev_op ev_c (ev_indexS ev_c (ev_var rfl) (hu a ha)) (rv_shl1 (by have := hu a ha; omega))
    · rw [psum_cast]
end
end Kw

namespace Kw
open PySem PySem.Spec PyProof.Rows L2 Evl

/-- what is walked gives a new pair each turn -/
def EvI2 (K : PySem.W.Frag) (wi : TI) (σ : L2.St) (H : Hp) (xs ys : List V) : Prop :=
  ∀ H1, Ex H H1 → ∀ R : It → Hp → Prop, (∀ J H2, Ex H1 H2 → (∃ G : Hp → Prop, Walk J xs.length G (YPair (fun i => xs[i]?) (fun i => ys[i]?)) ∧ ∀ H3, Ex H2 H3 → G H3) → R J H2) → wi σ H1 R
section
variable {K : PySem.W.Frag} {σ : L2.St} {H H' : Hp} {te : TE} {xs ys : List V}
theorem ints_at {n i : Nat} (h : i < n) : ((List.range n).map fun i => V.int ((i : Nat) : Int))[i]? = some (.int (i : Nat)) := by
  rw [List.getElem?_map, List.getElem?_range h]
  rfl
theorem ei_enumN {te : TE} (h : EvL te σ H xs) : EvI2 K (iEnum K (tCons te tNil)) σ H ((List.range xs.length).map fun i => V.int ((i : Nat) : Int)) xs := fun H1 e R q => h H1 e _ fun p H2 _ e2 hp =>
  ⟨p, xs, rfl, sq_of hp, q _ _ e2 ⟨fun H => SqL K H p xs, by
    rw [List.length_map, List.length_range]
    exact (walk_enum (K := K) (a := p) (xs := xs)).mono (fun _ h => h) fun i H x H' hi _ y => by
      obtain ⟨T, a, b, h1, h2, h3, h4, h5⟩ := y
      exact ⟨T, a, b, h1, h2, h3, (ints_at hi).trans h4, h5⟩, fun H3 e3 => ex_l e3 (sq_of hp)⟩⟩
theorem ei_zipN {ta tb : TE} {a : Addr} (h : Ev ta σ H (.ref a)) (ha : SqL K H a xs) (hb : EvL tb σ H ys) (hl : ys.length ≤ xs.length) : EvI2 K (iZip K (tCons ta (tCons tb tNil))) σ H (xs.take ys.length) ys := fun H1 e R q => h H1 e _ fun H2 e2 => hb H2 (e.trans e2) _ fun p H3 _ e3 hp =>
  ⟨a, p, xs, ys, rfl, ex_l ((e.trans e2).trans e3) ha, sq_of hp, q _ _ (e2.trans e3) ⟨fun H => SqL K H a xs ∧ SqL K H p ys, by
    rw [List.length_take, Nat.min_eq_left hl]
    exact (walk_zip (K := K) (a := a) (b := p) (xs := xs) (ys := ys) (n := ys.length) (by omega)).mono (fun _ h => h) fun i H x H' hi _ y => by
      obtain ⟨T, u, v, h1, h2, h3, h4, h5⟩ := y
      exact ⟨T, u, v, h1, h2, h3, (List.getElem?_take_of_lt hi).trans h4, h5⟩, fun H4 e4 => ⟨ex_l (((e.trans e2).trans e3).trans e4) ha, ex_l e4 (sq_of hp)⟩⟩⟩
/-- a comprehension over new pairs -/
theorem el_lc2 {α : Type} {wi : TI} {j k : Nat} {vs : List Nat} (as : List α) (fst snd : α → V) (g : α → V) (hi : EvI2 K wi σ H (as.map fst) (as.map snd)) (hz : as.length ≤ sizeLine) (hw : ∀ x y, wipe (((wipe σ vs).set j (some x)).set k (some y)) vs = wipe σ vs)
    (he : ∀ a ∈ as, ∀ H1, Ex H H1 → Ev te (((wipe σ vs).set j (some (fst a))).set k (some (snd a))) H1 (g a)) :
    EvL (tLc wi (gTup K 2 (gCons (gName j) (gCons (gName k) gNil))) tYes te vs) σ H (as.map g) := fun H0 e Q q => hi H0 e _ fun J H1 e1 ⟨G, W, hG⟩ D hD => by
  refine lc_it W (fun i H' => Ex H1 H' ∧ H' D = some (.lst ((as.take i).map g))) ⟨Ex.new hD, upd_same⟩ (fun i H' _ p => hG H' p.1) ?_ (fun H' p => ?_)
  · rintro i x H' H'' hlt ⟨ee, hl⟩ ⟨T, a, b, rfl, hT, rfl, h1, h2⟩
    rw [List.length_map] at hlt
    simp only [List.getElem?_map, List.getElem?_eq_getElem hlt, Option.map_some, Option.some.injEq] at h1 h2
    subst h1 h2
    have hm : as[i] ∈ as := List.getElem_mem hlt
    have hs := take_snoc (List.getElem?_eq_getElem hlt)
    have eT : Ex H' (upd H' T (.tup [fst as[i], snd as[i]])) := Ex.new hT
    refine g_two upd_same ⟨hw _ _, ?_⟩
    show te _ _ _
    refine he _ hm _ (((e.trans e1).trans ee).trans eT) _ (Ex.refl _) _ fun H4 e4 => ⟨_, (eT.trans e4) _ _ hl, ?_, ?_, ?_⟩
    · rw [List.length_map, List.length_take]
      omega
    · exact Ex.mut ((ee.trans eT).trans e4) hD
    · rw [upd_same, hs, List.map_append]
      rfl
  · rw [List.length_map, List.take_length] at p
    exact q D H' (fresh_back e1 hD) (e1.trans p.1) p.2

/-! ### lists told by their places -/
theorem set_range {n : Nat} {f : Nat → V} {j : Nat} {v : V} : ((List.range n).map f).set j v = (List.range n).map fun l => if l = j then v else f l := by
  refine List.ext_getElem (by simp) fun i h1 h2 => ?_
  rw [List.getElem_set]
  simp only [List.getElem_map, List.getElem_range]
  by_cases e : j = i
  · rw [if_pos e, if_pos e.symm]
  · rw [if_neg e, if_neg (fun z => e z.symm)]
theorem s_augL {D : Ends} {to ti tv : TE} {p : Addr} {xs : List V} {j : Nat} {a b : Int} (ho : Ev to σ H (.ref p)) (hi : Ev ti σ H (.int (j : Nat))) (hp : H p = some (.lst xs)) (hx : xs[j]? = some (.int a)) (hv : Ev tv σ H (.int b)) (k : ∀ H1, Ex H H1 → D.nx σ (upd H1 p (.lst (xs.set j (.int (a + b)))))) :
    tAugS to ti tv gtL (ipI fun i j => i + j) rSetL D σ H := ho H (Ex.refl H) _ fun H1 e1 => hi H1 e1 _ fun H2 e2 => ⟨p, xs, j, .int a, rfl, rfl, (e1.trans e2) _ _ hp, hx, hv H2 (e1.trans e2) _ fun H3 e3 =>
  ⟨a, b, rfl, rfl, p, xs, j, j, rfl, rfl, ((e1.trans e2).trans e3) _ _ hp, ixN_nat (List.getElem?_eq_some_iff.mp hx).1, k H3 ((e1.trans e2).trans e3)⟩⟩
theorem q_augL {D : Ends} {tz : TS} {to ti tv : TE} {p : Addr} {xs : List V} {j : Nat} {a b : Int} (ho : Ev to σ H (.ref p)) (hi : Ev ti σ H (.int (j : Nat))) (hp : H p = some (.lst xs)) (hx : xs[j]? = some (.int a)) (hv : Ev tv σ H (.int b)) (k : ∀ H1, Ex H H1 → tz D σ (upd H1 p (.lst (xs.set j (.int (a + b)))))) :
    tSeq (tAugS to ti tv gtL (ipI fun i j => i + j) rSetL) tz D σ H := s_augL (D := { D with nx := tz D }) ho hi hp hx hv k
theorem rep_flat {n : Nat} {x : V} : (List.replicate n [x]).flatten = List.replicate n x := by
  induction n with
  | zero => rfl
  | succ n ih => rw [List.replicate_succ, List.flatten_cons, ih]; rfl
theorem el_rep {ta : TE} {tn : TE} {x : V} {n : Nat} (h : EvL ta σ H [x]) (hn : Ev tn σ H (.int (n : Nat))) (hz : n ≤ 100000) : EvL (tOp rRep ta tn) σ H (List.replicate n x) := fun H1 e Q q => h H1 e _ fun p H2 _ e2 hp => hn H2 (e.trans e2) _ fun H3 e3 =>
  ⟨p, n, [x], rfl, rfl, e3 _ _ hp, by omega, by omega, by simp only [List.length_singleton, Nat.one_mul, Int.toNat_natCast]; exact sz_of hz, fun r hr => by
    refine q r _ (fresh_back (e2.trans e3) hr) ((e2.trans e3).trans (Ex.new hr)) ?_
    rw [upd_same, Int.toNat_natCast]
    rw [rep_flat]⟩
theorem rep_range {n : Nat} {x : V} : List.replicate n x = (List.range n).map fun _ => x := by
  refine List.ext_getElem (by simp) fun i h1 h2 => by simp
end
theorem psum_app (u v : List Nat) : psum (u ++ v) = psum u + psum v := by
  unfold psum
  rw [List.map_append, List.sum_append]
theorem fm_snoc {ps : List (Nat × Nat)} {q : Nat × Nat} {l : Nat} : fm (ps ++ [q]) l = fm ps l + ((if q.1 = l then 2 ^ q.2 else 0) + if q.2 = l then 2 ^ q.1 else 0) := by
  have : neigh (ps ++ [q]) l = neigh ps l ++ ((if q.1 = l then [q.2] else []) ++ if q.2 = l then [q.1] else []) := by
    unfold neigh
    rw [List.flatMap_append]
    simp
  unfold fm
  rw [this, psum_app, psum_app]
  congr 2
  · split
    · simp [psum]
    · rfl
  · split
    · simp [psum]
    · rfl
end Kw

namespace Kw
open PySem PySem.Spec PyProof.Rows L2 Evl

abbrev vI (f : Nat → Nat) (n : Nat) : List V := (List.range n).map fun l => .int ((f l : Nat) : Int)
/-- where the code's covers begin: the place itself, and friends from it on -/
def cv (ps : List (Nat × Nat)) (a : Nat) : Nat := (fm ps a / 2 ^ a ||| 1) * 2 ^ a
def odds : Nat → List Nat
  | 0 => [0]
  | n + 1 => odds n ++ (odds n).map fun t => 1 - t
def spFriends : Sp := fun vs H Q _ => ∃ (c : Addr) (n : Nat) (ps : List (Nat × Nat)), vs = [.ref c] ∧ Co n ps ∧ CoAt H c n ps ∧ RetL (vI (fm ps) n) H Q
def spCovers : Sp := fun vs H Q _ => ∃ (c : Addr) (n : Nat) (ps : List (Nat × Nat)), vs = [.ref c] ∧ Co n ps ∧ CoAt H c n ps ∧ RetL (vI (cv ps) n) H Q
def spOdd : Sp := fun vs H Q _ => vs = [] ∧ RetL ((odds 8).map fun t => .int ((t : Nat) : Int)) H Q
/-- a pair of ints -/
def PrAt (H : Hp) (p : Addr) (m s : Nat) : Prop := H p = some (.tup [.int (m : Nat), .int (s : Nat)])
def RetP (m s : Nat) (H : Hp) (Q : VK) : Prop := ∀ p H2, H p = none → Ex H H2 → PrAt H2 p m s → Q (.ref p) H2
def stepM (m a : Nat) : Nat := m ^^^ 2 ^ a
def stepS (ps : List (Nat × Nat)) (m s a : Nat) : Nat := s ^^^ (odds 8).getD (m &&& cv ps a) 0
def spStepped : Sp := fun vs H Q _ => ∃ (p cl ol : Addr) (m s a n : Nat) (ps : List (Nat × Nat)), vs = [.ref p, .int (a : Nat), .ref cl, .ref ol] ∧ PrAt H p m s ∧ H cl = some (.lst (vI (cv ps) n)) ∧ H ol = some (.lst ((odds 8).map fun t => .int ((t : Nat) : Int))) ∧ a < n ∧ n ≤ 8 ∧ m < 256 ∧ RetP (stepM m a) (stepS ps m s a) H Q
def spInner : Sp := fun vs H Q _ => ∃ (k : Addr) (u : List Nat) (n s : Nat), vs = [.ref k] ∧ KiAt H k u s ∧ Ki n u s ∧ n ≤ 8 ∧ RetP (psum u) s H Q
def spNeedBoth : Sp := spNeedWord
def spIsWalk : Sp := fun vs H Q _ => ∃ (c : Addr) (n : Nat) (ps : List (Nat × Nat)) (u : List Nat), vs = [.ref c, .str (wS u)] ∧ Co n ps ∧ CoAt H c n ps ∧ (∀ a ∈ u, a < n) ∧ 1 ≤ u.length ∧ u.length ≤ 60 ∧ RetV (.bl (adj (fr ps) u)) H Q
section
variable {P : Program} {w : World} {K : PySem.W.Frag} {mg : Str → Option Value} {base : Heap} {σ : L2.St} {H : Hp}
theorem ev_co1 {te : TE} {c : Addr} {n : Nat} {ps : List (Nat × Nat)} {x : Addr} {y : V} (h : Ev te σ H (.ref c)) (hc : H c = some (.tup [y, .ref x])) : Ev (tOp (rIxT K) te (tC (.int 1))) σ H (.ref x) := ev_op h ev_c (rv_ixP (j := 1) hc rfl)
theorem rv_shr {x a : Nat} : RV (rI (fun _ j => 0 ≤ j) fun i j => .int (i / 2 ^ j.toNat)) (.int (x : Nat)) (.int (a : Nat)) H (.int ((x / 2 ^ a : Nat) : Int)) := fun H1 e Q q => ⟨(x : Nat), (a : Nat), rfl, rfl, by omega, by
  show Q (.int ((x : Int) / 2 ^ ((a : Int)).toNat)) H1
  rw [Int.toNat_natCast, show ((x : Int) / 2 ^ a) = ((x / 2 ^ a : Nat) : Int) by rw [Int.natCast_ediv, Int.natCast_pow]; rfl]
  exact q H1 (Ex.refl _)⟩
theorem bitAnd_pp (x y : Nat) : Builtin.bitAnd (x : Int) (y : Int) = ((x &&& y : Nat) : Int) := by rfl
theorem rv_or {x y : Nat} : RV (rI0 fun i j => .int (Builtin.bitOr i j)) (.int (x : Nat)) (.int (y : Nat)) H (.int ((x ||| y : Nat) : Int)) := fun H1 e Q q => ⟨(x : Nat), (y : Nat), rfl, rfl, by
  show Q (.int (Builtin.bitOr (x : Int) (y : Int))) H1
  rw [Bits.bitOr_pp (by omega) (by omega), Int.toNat_natCast, Int.toNat_natCast]
  exact q H1 (Ex.refl _)⟩
theorem rv_xor {x y : Nat} : RV (rI0 fun i j => .int (Builtin.bitXor i j)) (.int (x : Nat)) (.int (y : Nat)) H (.int ((x ^^^ y : Nat) : Int)) := fun H1 e Q q => ⟨(x : Nat), (y : Nat), rfl, rfl, by
  show Q (.int (Builtin.bitXor (x : Int) (y : Int))) H1
  rw [Bits.bitXor_pp (by omega) (by omega), Int.toNat_natCast, Int.toNat_natCast]
  exact q H1 (Ex.refl _)⟩
theorem rv_and {x y : Nat} : RV (rI0 fun i j => .int (Builtin.bitAnd i j)) (.int (x : Nat)) (.int (y : Nat)) H (.int ((x &&& y : Nat) : Int)) := fun H1 e Q q => ⟨(x : Nat), (y : Nat), rfl, rfl, by
  show Q (.int (Builtin.bitAnd (x : Int) (y : Int))) H1
  rw [bitAnd_pp]
  exact q H1 (Ex.refl _)⟩
theorem pcall0 {X : Cx} {k : Nat} {x : Str} {st : Stmt} {ps : List Str} {f : Addr} {fd : FuncData} {sp : Sp} {p pos : Pos} (D : Df X.K X.mg x st ps f fd) (G : FnOk X.prog X.w X.K X.mg X.base CX0 k f fd ps sp) (hr : Room k X.A) (hg : Gl X x := by rfl) (hdb : (x == ("__debug__" : Str)) = false := by decide) :
    PE X (.Call (.Name x p) [] [] pos) (tCall sp [] E0 tNil) := pe_call0 G hr hg D.g D.F.kp D.b .nil pass0 hdb
theorem el_cat {ta tb : TE} {a : Addr} {xs ys : List V} (h : Ev ta σ H (.ref a)) (ha : H a = some (.lst xs)) (hb : EvL tb σ H ys) (hz : xs.length + ys.length ≤ sizeLine) : EvL (tOp rCat ta tb) σ H (xs ++ ys) := fun H1 e Q q => h H1 e _ fun H2 e2 => hb H2 (e.trans e2) _ fun p H3 _ e3 hp =>
  ⟨a, p, xs, ys, rfl, rfl, ((e.trans e2).trans e3) _ _ ha, hp, hz, fun r hr => q r _ (fresh_back (e2.trans e3) hr) ((e2.trans e3).trans (Ex.new hr)) upd_same⟩
theorem odds_len : ∀ i ≤ 8, (odds i).length ≤ 256 := by decide +kernel
theorem odds_one : ∀ i ≤ 8, ∀ t ∈ odds i, t ≤ 1 := by decide +kernel
theorem odds8 : (odds 8).length = 256 := by decide +kernel
theorem eu_two {ta tb : TE} {x y : V} (ha : Ev ta σ H x) (hb : Ev tb σ H y) : EvU (tTup (tCons ta (tCons tb tNil))) σ H [x, y] := eu_tup (ea_cons ha (ea_cons hb ea_nil)) (show 2 ≤ 100000 by decide)
theorem vI_at {f : Nat → Nat} {n a : Nat} (h : a < n) : (vI f n)[a]? = some (.int ((f a : Nat) : Int)) := by
  rw [List.getElem?_map, List.getElem?_range h]; rfl
theorem rv_and1 {x : Nat} : RV (rI0 fun i j => .int (Builtin.bitAnd i j)) (.int (x : Nat)) (.int 1) H (.int ((x &&& 1 : Nat) : Int)) := rv_and (y := 1)
theorem bit_is {n : Nat} {ps : List (Nat × Nat)} (co : Co n ps) (a b : Nat) : decide (V.int ((fm ps a / 2 ^ b &&& 1 : Nat) : Int) = V.int 1) = fr ps a b := by
  rw [← fm_bit co, Nat.testBit_eq_decide_div_mod_eq, Nat.and_one_is_mod]
  exact decide_eq_decide.mpr ⟨fun h => by have := V.int.inj h; omega, fun h => by rw [h]; rfl⟩
theorem cutV_tail {xs : List V} : cutV xs (some 1) none = xs.drop 1 := by
  unfold cutV
  cases xs with
  | nil => simp
  | cons a t =>
    have h1 : HT.sIx (a :: t).length 0 (some 1) = 1 := by simp [HT.sIx]
    have h2 : HT.sIx (a :: t).length (a :: t).length none = (a :: t).length := rfl
    rw [h1, h2, List.take_of_length_le (by simp)]
theorem zip_fst {α β γ : Type} {f : α → γ} : ∀ (u : List α) (v : List β), v.length ≤ u.length → (u.map f).take v.length = (u.zip v).map fun q => f q.1
  | _, [], _ => by simp
  | [], b :: v, h => by simp at h
  | a :: u, b :: v, h => by
    have ih := zip_fst (f := f) u v (by simpa using h)
    simp only [List.map_cons, List.length_cons, List.take_succ_cons, List.zip_cons_cons, ih]
theorem zip_snd {α β γ : Type} {f : β → γ} : ∀ (u : List α) (v : List β), v.length ≤ u.length → v.map f = (u.zip v).map fun q => f q.2
  | _, [], _ => by simp
  | [], b :: v, h => by simp at h
  | a :: u, b :: v, h => by
    have ih := zip_snd (f := f) u v (by simpa using h)
    simp only [List.map_cons, List.zip_cons_cons, ih]
theorem adj_zip {f : Nat → Nat → Bool} : ∀ u : List Nat, ((u.zip (u.drop 1)).map fun q => f q.1 q.2).all id = adj f u
  | [] => rfl
  | [a] => rfl
  | a :: b :: t => by
    have ih := adj_zip (f := f) (b :: t)
    show (f a b && (((b :: t).zip t).map fun q => f q.1 q.2).all id) = (f a b && adj f (b :: t))
    rw [← ih]
    rfl
theorem zip_mem {u : List Nat} {q : Nat × Nat} (h : q ∈ u.zip (u.drop 1)) : q.1 ∈ u ∧ q.2 ∈ u := by
  obtain ⟨x, y⟩ := q
  have h := List.of_mem_zip h
  exact ⟨h.1, List.mem_of_mem_drop h.2⟩
theorem ok_friends_of_all {f : Addr} {fd : FuncData} (D : Df K mg "friends_of_all" s_friends_of_all ["company"] f fd) (B : Bt mg) : FnOk P w K mg base CX0 1 f fd ["company"] spFriends := by
  refine D.F.ok sc_friends_of_all (fun vs H Q E h => ?_) (fun cdv A outer s H vs Q E hr h => ?_)
  · obtain ⟨c, n, ps, rfl, _⟩ := h
    rfl
  · obtain ⟨c, n, ps, rfl, co, hc, k⟩ := h
    have nd := sc_friends_of_all.nd
    refine ⟨_, (pss_cons (ps_set (i := 1) nd rfl (Or.inl rfl) (pe_op op_rep (pe_lst (pa_cons pe_int pa_nil)) (pe_ix ix_tup (pv 0) pe_int (fun _ _ => rfl))))
      (pss_cons (ps_for PassesOwn.never rfl (pi_tup (pe_ix ix_tup (pv 0) pe_int (fun _ _ => rfl))) (pg_tup (by rfl) (pgs_cons (pg_name (i := 2) nd rfl (Or.inl rfl)) (pgs_cons (pg_name (i := 3) nd rfl (Or.inl rfl)) pgs_nil))) (pss_cons (ps_augS (pv 1) (pv 2) get_list (pe_op op_shl pe_int (pv 3)) ip_add set_list)
      (pss_one (ps_augS (pv 1) (pv 3) get_list (pe_op op_shl pe_int (pv 2)) ip_add set_list))))
      (pss_one (ps_ret (pv 1))))), ?_⟩
    have h8 := co.hi
    obtain ⟨a, bs, hc1, ha, hp⟩ := id hc
    refine q_asgL (el_rep (el_lst (ea_cons ev_c ea_nil) (by decide)) (ev_co0 (ev_var rfl) hc) (by omega)) fun l H1 hl e1 hl1 => ?_
    refine q_forT (a := a) (xs := bs.map V.ref) (ev_co1 (n := n) (ps := ps) (ev_var rfl) (e1 _ _ hc1)) (st_of (e1 _ _ ha)) (fun i σ' H' => (∃ u v, σ' = [some (.ref c), some (.ref l), u, v]) ∧ Ex H H' ∧ H' l = some (.lst (vI (fm (ps.take i)) n))) (fun H2 e2 => ⟨⟨_, _, rfl⟩, e1.trans e2, ?_⟩) (fun i σ' H' _ p => st_of (p.2.1 _ _ ha)) ?_ ?_
    · rw [e2 _ _ hl1, rep_range]
      rfl
    · rintro i x σ' H' hx ⟨⟨u, v, rfl⟩, xx, hl'⟩
      have hi : i < bs.length := by
        have := (List.getElem?_eq_some_iff.mp hx).1
        rwa [List.length_map] at this
      obtain rfl : .ref bs[i] = x := by simpa [List.getElem?_map, List.getElem?_eq_getElem hi] using hx
      have hi2 : i < ps.length := by have := hp.len; omega
      have hb : H bs[i] = some (.tup (vP ps[i])) := paired_at hp (List.getElem?_eq_getElem hi) (List.getElem?_eq_getElem hi2)
      have hq := co.lt ps[i] (List.getElem_mem hi2)
      refine g_two (xx _ _ hb) ?_
      have i1 : (vI (fm (ps.take i)) n)[ps[i].1]? = some (.int ((fm (ps.take i) ps[i].1 : Nat) : Int)) := by
        rw [List.getElem?_map, List.getElem?_range (by omega)]; rfl
      refine q_augL (j := ps[i].1) (ev_var rfl) (ev_var rfl) hl' i1 (ev_op ev_c (ev_var rfl) (rv_shl1 (by omega))) fun H2 e2 => ?_
      have i2 : ((vI (fm (ps.take i)) n).set ps[i].1 (.int (((fm (ps.take i) ps[i].1 : Nat) : Int) + ((2 ^ ps[i].2 : Nat) : Int))))[ps[i].2]? = some (.int ((fm (ps.take i) ps[i].2 : Nat) : Int)) := by
        rw [List.getElem?_set_ne (by omega), List.getElem?_map, List.getElem?_range (by omega)]; rfl
      refine s_augL (j := ps[i].2) (ev_var rfl) (ev_var rfl) upd_same i2 (ev_op ev_c (ev_var rfl) (rv_shl1 (by omega))) fun H3 e3 => ⟨⟨_, _, rfl⟩, Ex.mut ((Ex.mut (xx.trans e2) hl).trans e3) hl, ?_⟩
      rw [upd_same, take_snoc (List.getElem?_eq_getElem hi2)]
      congr 2
      rw [set_range, set_range]
      refine List.map_congr_left fun m hm => ?_
      rw [fm_snoc]
      by_cases m2 : m = ps[i].2
      · subst m2
        rw [if_pos rfl, if_neg (by omega), if_pos rfl, Nat.zero_add, Int.natCast_add]
      · rw [if_neg m2, if_neg (c := ps[i].2 = m) (fun z => m2 z.symm), Nat.add_zero]
        by_cases m1 : m = ps[i].1
        · subst m1
          rw [if_pos rfl, if_pos rfl, Int.natCast_add]
        · rw [if_neg m1, if_neg (fun z => m1 z.symm), Nat.add_zero]
    · rintro σ' H' ⟨⟨u, v, rfl⟩, xx, hl'⟩
      rw [List.length_map, hp.len, List.take_length] at hl'
      exact s_ret (ev_var rfl) fun H2 e2 => k _ _ hl (xx.trans e2) (e2 _ _ hl')
theorem ok_covers {f fF : Addr} {fd fdF : FuncData} (D : Df K mg "covers" s_covers ["company"] f fd) (B : Bt mg)
    (DF : Df K mg "friends_of_all" s_friends_of_all ["company"] fF fdF) (GF : FnOk P w K mg base CX0 1 fF fdF ["company"] spFriends) : FnOk P w K mg base CX0 2 f fd ["company"] spCovers := by
  refine D.F.ok sc_covers (fun vs H Q E h => ?_) (fun cdv A outer s H vs Q E hr h => ?_)
  · obtain ⟨c, n, ps, rfl, _⟩ := h
    rfl
  · obtain ⟨c, n, ps, rfl, co, hc, k⟩ := h
    have nd := sc_covers.nd
    refine ⟨_, (pss_one (ps_ret (pe_lc (own := [("at", 1), ("told", 2)]) (g := gTup K 2 (gCons (gName 1) (gCons (gName 2) gNil))) (tt := tYes) rfl nd (pi_enum (by rfl) B.enumerate (pa_cons (pcall DF GF (hr.mono (by decide)) (pa_cons (pv 0) pa_nil)) pa_nil)) (blkOk_by (N := ["company", "at", "told"]) (sc := (defScope s_covers)) (by decide +kernel)) (fun _ _ _ _ _ => (pg_tup (by rfl) (pgs_cons (pg_name (i := 1) nd rfl (Or.inl rfl)) (pgs_cons (pg_name (i := 2) nd rfl (Or.inl rfl)) pgs_nil)))) (fun _ _ _ _ _ => pts_nil)
        (fun _ _ _ _ _ => (pe_op op_shl (pe_op op_or (pe_op op_shr (pv 2) (pv 1)) pe_int) (pv 1)))))), ?_⟩
    have h8 := co.hi
    refine s_retL (el_lc2 (K := K) (List.range n) (fun a => .int ((a : Nat) : Int)) (fun a => .int ((fm ps a : Nat) : Int)) _ ?_ (by rw [List.length_range]; exact Nat.le_trans h8 (by decide)) (fun _ _ => rfl) fun a ha H1 e1 => ?_) (fun p H1 hp e1 h => k p H1 hp e1 h)
    · have := ei_enumN (K := K) (H := H) (σ := start ["company","at","told"] [.ref c]) (xs := vI (fm ps) n) (te := tCall spFriends [] E0 (tCons (tVar 0) tNil)) (el_call (vs := [.ref c]) (ea_cons (ev_var rfl) ea_nil) fun H1 e1 Q' q' E' => ⟨c, n, ps, rfl, co, hc.mono (tu_ex e1), fun p H2 hp e2 h2 => q' p H2 hp e2 h2⟩)
      rw [List.length_map, List.length_range] at this
      exact this
    · have ha := List.mem_range.mp ha
      have f1 := fm_lt co a
      refine ev_op (ev_op (y := .int ((1 : Nat) : Int)) (ev_op (ev_var rfl) (ev_var rfl) rv_shr) ev_c rv_or) (ev_var rfl) (rv_shl (by omega) ?_)
      have h1 : fm ps a / 2 ^ a < 2 ^ 8 := Nat.lt_of_le_of_lt (Nat.div_le_self _ _) f1
      exact Nat.lt_trans (Nat.or_lt_two_pow h1 (by decide)) (by decide)
theorem ok_oddness {f : Addr} {fd : FuncData} (D : Df K mg "oddness" s_oddness [] f fd) (B : Bt mg) : FnOk P w K mg base CX0 1 f fd [] spOdd := by
  refine D.F.ok sc_oddness (fun vs H Q E h => ?_) (fun cdv A outer s H vs Q E hr h => ?_)
  · obtain ⟨rfl, _⟩ := h
    rfl
  · obtain ⟨rfl, k⟩ := h
    have nd := sc_oddness.nd
    refine ⟨_, (pss_cons (ps_set (i := 0) nd rfl (Or.inl rfl) (pe_lst (pa_cons pe_int pa_nil)))
      (pss_cons (ps_for PassesOwn.never rfl (pi_range1 rfl B.range (pa_cons (pg_most B rfl) pa_nil)) (pg_name (i := 1) nd rfl (Or.inl rfl)) (pss_one (ps_set (i := 0) nd rfl (Or.inl rfl) (pe_op op_cat (pv 0) (pe_lc (own := [("told", 2)]) (tt := tYes) rfl nd (pi_list (pv 0)) (blkOk_by (N := ["found", "turn", "told"]) (sc := (defScope s_oddness)) (by decide +kernel)) (fun _ _ _ _ _ => (pg_name (i := 2) nd rfl (Or.inl rfl))) (fun _ _ _ _ _ => pts_nil)
        (fun _ _ _ _ _ => (pe_op op_sub pe_int (pv 2))))))))
      (pss_one (ps_ret (pv 0))))), ?_⟩
    refine q_asgL (el_lst (ea_cons ev_c ea_nil) (by decide)) fun l H1 hl e1 hl1 => ?_
    refine q_forR1 (n := 8) (ea_cons ev_c ea_nil) (by decide) (fun i σ' H' => ∃ p x, σ' = [some (.ref p), x, none] ∧ H p = none ∧ Ex H H' ∧ H' p = some (.lst ((odds i).map fun t => .int ((t : Nat) : Int)))) (fun H2 e2 => ⟨l, none, rfl, hl, e1.trans e2, e2 _ _ hl1⟩) ?_ ?_
    · rintro i σ' H' hi ⟨p, x, rfl, hp, xx, hl'⟩
      have h8 := odds_len i (by omega)
      have h1 := odds_one i (by omega)
      have z : (odds i).length ≤ sizeLine := Nat.le_trans h8 (by decide)
      refine s_asgL (el_cat (ev_var rfl) hl' (el_lcA (K := K) (odds i) (fun t => .int ((t : Nat) : Int)) (fun t => .int ((1 - t : Nat) : Int)) (ei_list (ev_var rfl) (sq_of hl')) z (fun _ => rfl) fun t ht H2 e2 => ?_) (by rw [List.length_map, List.length_map]; exact Nat.le_trans (show _ ≤ 512 by omega) (by decide))) fun p2 H2 hp2 e2 hl2 => ⟨p2, _, rfl, fresh_back xx hp2, xx.trans e2, ?_⟩
      · refine ev_is (ev_op ev_c (ev_var rfl) rv_I0) ?_
        have := h1 t ht
        rw [show ((1 - t : Nat) : Int) = 1 - (t : Int) by omega]
      · rw [hl2]
        show _ = some (HO.lst (List.map _ (odds i ++ (odds i).map fun t => 1 - t)))
        rw [List.map_append, List.map_map]
        rfl
    · rintro σ' H' ⟨p, x, rfl, hp, xx, hl'⟩
      exact s_ret (ev_var rfl) fun H2 e2 => k _ _ hp (xx.trans e2) (e2 _ _ hl')
theorem ok_stepped {f : Addr} {fd : FuncData} (D : Df K mg "stepped" s_stepped ["pair", "at", "cover", "odd"] f fd) (B : Bt mg) : FnOk P w K mg base CX0 1 f fd ["pair", "at", "cover", "odd"] spStepped := by
  refine D.F.ok sc_stepped (fun vs H Q E h => ?_) (fun cdv A outer s H vs Q E hr h => ?_)
  · obtain ⟨p, cl, ol, m, s, a, n, ps, rfl, _⟩ := h
    rfl
  · obtain ⟨p, cl, ol, m, s, a, n, ps, rfl, hp, hc, ho, ha, hn, hm, k⟩ := h
    have nd := sc_stepped.nd
    refine ⟨_, (pss_one (ps_ret (pe_tup (pa_cons (pe_op op_xor (pe_ix ix_tup (pv 0) pe_int (fun _ _ => rfl)) (pe_op op_shl pe_int (pv 1))) (pa_cons (pe_op op_xor (pe_ix ix_tup (pv 0) pe_int (fun _ _ => rfl)) (pe_ix ix_list (pv 3) (pe_op op_and (pe_ix ix_tup (pv 0) pe_int (fun _ _ => rfl)) (pe_ix ix_list (pv 2) (pv 1) (fun _ _ => rfl))) (fun _ _ => rfl))) pa_nil))))), ?_⟩
    have e0 : Ev (tOp (rIxT K) (tVar 0) (tC (.int 0))) (start ["pair","at","cover","odd"] [.ref p, .int (a : Nat), .ref cl, .ref ol]) H (.int (m : Nat)) := ev_op (ev_var rfl) ev_c (rv_ixP (j := 0) hp rfl)
    have e1 : Ev (tOp (rIxT K) (tVar 0) (tC (.int 1))) (start ["pair","at","cover","odd"] [.ref p, .int (a : Nat), .ref cl, .ref ol]) H (.int (s : Nat)) := ev_op (ev_var rfl) ev_c (rv_ixP (j := 1) hp rfl)
    have hj : m &&& cv ps a < (odds 8).length := by rw [odds8]; exact Nat.lt_of_le_of_lt Nat.and_le_left hm
    exact s_retU (eu_two (ev_op e0 (ev_op ev_c (ev_var rfl) (rv_shl1 (by omega))) rv_xor) (ev_op e1 (ev_op (ev_var rfl) (ev_op e0 (ev_op (ev_var rfl) (ev_var rfl) (rv_ixL (sq_of hc) (atI_nat (vI_at ha)))) rv_and) (rv_ixL (sq_of ho) (atI_nat (by
      rw [List.getElem?_map, List.getElem?_eq_getElem hj]; rfl)))) rv_xor)) fun p H1 hp e1 h => k p H1 hp e1 (by
        show H1 p = some (.tup [.int ((m ^^^ 2 ^ a : Nat) : Int), .int ((s ^^^ (odds 8).getD (m &&& cv ps a) 0 : Nat) : Int)])
        rw [h, List.getD_eq_getElem?_getD, List.getElem?_eq_getElem hj]
        rfl)
theorem ok_inner {f fM : Addr} {fd fdM : FuncData} (D : Df K mg "inner" s_inner ["kind"] f fd) (B : Bt mg)
    (DM : Df K mg "mask_of" s_mask_of ["letters"] fM fdM) (GM : FnOk P w K mg base CX0 1 fM fdM ["letters"] spMaskOf) : FnOk P w K mg base CX0 2 f fd ["kind"] spInner := by
  refine D.F.ok sc_inner (fun vs H Q E h => ?_) (fun cdv A outer s H vs Q E hr h => ?_)
  · obtain ⟨g, u, n, s, rfl, _⟩ := h
    rfl
  · obtain ⟨g, u, n, s, rfl, hk, ki, hn, k⟩ := h
    have nd := sc_inner.nd
    refine ⟨_, (pss_one (ps_ret (pe_tup (pa_cons (pcall DM GM hr (pa_cons (pe_ix ix_tup (pv 0) pe_int (fun _ _ => rfl)) pa_nil)) (pa_cons (pe_ix ix_tup (pv 0) pe_int (fun _ _ => rfl)) pa_nil))))), ?_⟩
    exact s_retU (eu_two (ev_call (vs := [.str (wS u)]) (ea_cons (ev_op (ev_var rfl) ev_c (rv_ixP (j := 0) hk rfl)) ea_nil) fun H1 e1 Q' q' E' => ⟨u, rfl, fun a ha => Nat.lt_of_lt_of_le (ki.lt a ha) hn, Nat.le_trans (asc_len ki.asc ki.lt) hn, q'⟩) (ev_op (ev_var rfl) ev_c (rv_ixP (j := 1) hk rfl))) fun p H1 hp e1 h => k p H1 hp e1 h
theorem ok_need_both {f fC  fW : Addr} {fd fdC  fdW : FuncData} (D : Df K mg "need_both" s_need_both ["company", "word"] f fd)
    (DC : Df K mg "need_company" s_need_company ["company"] fC fdC) (GC : FnOk P w K mg base CX0 3 fC fdC ["company"] spNeedCo)
    (DW : Df K mg "need_word" s_need_word ["company", "word"] fW fdW) (GW : FnOk P w K mg base CX0 2 fW fdW ["company", "word"] spNeedWord) : FnOk P w K mg base CX0 4 f fd ["company", "word"] spNeedWord := by
  refine D.F.ok sc_need_both (fun vs H Q E h => ?_) (fun cdv A outer s H vs Q E hr h => ?_)
  · obtain ⟨c, n, ps, u, rfl, _⟩ := h
    rfl
  · obtain ⟨c, n, ps, u, rfl, co, hc, hu, h1, h2, k⟩ := h
    have nd := sc_need_both.nd
    refine ⟨_, (pss_cons (ps_expr (pcall DC GC hr (pa_cons (pv 0) pa_nil)))
      (pss_one (ps_expr (pcall DW GW (hr.mono (by decide)) (pa_cons (pv 0) (pa_cons (pv 1) pa_nil)))))), ?_⟩
    exact q_drop (ev_call (vs := [.ref c]) (ea_cons (ev_var rfl) ea_nil) fun H1 e1 Q' q' E' => ⟨c, n, ps, rfl, co, hc.mono (tu_ex e1), q'⟩) fun H1 e1 =>
      s_drop (ev_call (vs := [.ref c, .str (wS u)]) (ea_cons (ev_var rfl) (ea_cons (ev_var rfl) ea_nil)) fun H2 e2 Q' q' E' => ⟨c, n, ps, u, rfl, co, hc.mono (tu_ex (e1.trans e2)), hu, h1, h2, q'⟩) fun H2 e2 => k H2 (e1.trans e2)
theorem ok_is_walk {f fB  fF : Addr} {fd fdB  fdF : FuncData} (D : Df K mg "is_walk" s_is_walk ["company", "word"] f fd) (B : Bt mg)
    (DB : Df K mg "need_both" s_need_both ["company", "word"] fB fdB) (GB : FnOk P w K mg base CX0 4 fB fdB ["company", "word"] spNeedWord)
    (DF : Df K mg "friends_of_all" s_friends_of_all ["company"] fF fdF) (GF : FnOk P w K mg base CX0 1 fF fdF ["company"] spFriends) : FnOk P w K mg base CX0 5 f fd ["company", "word"] spIsWalk := by
  refine D.F.ok sc_is_walk (fun vs H Q E h => ?_) (fun cdv A outer s H vs Q E hr h => ?_)
  · obtain ⟨c, n, ps, u, rfl, _⟩ := h
    rfl
  · obtain ⟨c, n, ps, u, rfl, co, hc, hu, h1, h2, k⟩ := h
    have nd := sc_is_walk.nd
    refine ⟨_, (pss_cons (ps_expr (pcall DB GB hr (pa_cons (pv 0) (pa_cons (pv 1) pa_nil))))
      (pss_cons (ps_set (i := 2) nd rfl (Or.inr rfl) (pcall DF GF (hr.mono (by decide)) (pa_cons (pv 0) pa_nil)))
      (pss_cons (ps_setLc (i := 3) (own := [("sign", 4)]) (g := gName 4) (tt := tYes) (te := tBM K "str" rIndex1 (tC (.str "abcdefgh")) (tCons (tVar 4) tNil)) rfl nd rfl rfl (sw_true rfl rfl rfl (by decide +kernel)) (pi_str (pv 1)) (blkOk_by (N := ["company", "word", "told", "places", "sign", "one", "other"]) (sc := (defScope s_is_walk)) (by decide +kernel)) (fun _ _ _ _ _ => (pg_name (i := 4) nd rfl (Or.inl rfl))) (fun _ _ _ _ _ => pts_nil)
        (fun _ _ _ _ _ => (pe_bm (r := rIndex1) PySem.F.plainAttrs_str PySem.F.slot_str_index PySem.F.type_str_index mt_index1 (pg_alpha B rfl) (pa_cons (pv 4) pa_nil))))
      (pss_one (ps_ret (pe_callB (cr_all rfl) (by rfl) B.all (by decide +kernel) (pa_cons (pe_lc (own := [("one", 5), ("other", 6)]) (g := gTup K 2 (gCons (gName 5) (gCons (gName 6) gNil))) (tt := tYes) rfl nd (pi_zip (by rfl) B.zip (pa_cons (pv 3) (pa_cons (pe_slice sl_list (pv 3) (po_some pe_int) po_none) pa_nil))) (blkOk_by (N := ["company", "word", "told", "places", "sign", "one", "other"]) (sc := (defScope s_is_walk)) (by decide +kernel)) (fun _ _ _ _ _ => (pg_tup (by rfl) (pgs_cons (pg_name (i := 5) nd rfl (Or.inl rfl)) (pgs_cons (pg_name (i := 6) nd rfl (Or.inl rfl)) pgs_nil)))) (fun _ _ _ _ _ => pts_nil)
        (fun _ _ _ _ _ => (pe_cmpR op_eq (pe_op op_and (pe_op op_shr (pe_ix (r := rIxL K) ix_list (pv 2) (pv 5) (fun _ _ => rfl)) (pv 6)) pe_int) pe_int (nomark _)))) pa_nil))))))), ?_⟩
    have h8 := co.hi
    refine q_drop (ev_call (vs := [.ref c, .str (wS u)]) (ea_cons (ev_var rfl) (ea_cons (ev_var rfl) ea_nil)) fun H1 e1 Q' q' E' => ⟨c, n, ps, u, rfl, co, hc.mono (tu_ex e1), hu, h1, h2, q'⟩) fun H1 e1 => ?_
    refine q_asgL (el_call (vs := [.ref c]) (ea_cons (ev_var rfl) ea_nil) fun H2 e2 Q' q' E' => ⟨c, n, ps, rfl, co, hc.mono (tu_ex (e1.trans e2)), fun p H2 hp e2 h2 => q' p H2 hp e2 h2⟩) fun l H2 hl e2 hl2 => ?_
    have z : u.length ≤ sizeLine := Nat.le_trans h2 (by decide)
    refine q_asgL (el_lcA (K := K) u (fun a => .str (sg a)) (fun a => .int ((a : Nat) : Int)) (ei_wS (ev_var rfl)) z (fun _ => rfl) fun a ha H2 e2 => ev_indexS ev_c (ev_var rfl) (Nat.lt_of_lt_of_le (hu a ha) h8)) fun m H3 hm e3 hm3 => ?_
    have hcut : cutV (u.map fun a => V.int ((a : Nat) : Int)) (some 1) none = (u.drop 1).map fun a => V.int ((a : Nat) : Int) := by rw [cutV_tail, List.map_drop]
    have hb : EvL (tSl (rSlL K) (tVar 3) (tPart (tC (.int 1))) tNoPart) [some (.ref c), some (.str (wS u)), some (.ref l), some (.ref m), none, none, none] H3 ((u.drop 1).map fun a => V.int ((a : Nat) : Int)) := hcut ▸ el_sl (ev_var rfl) (eo_some ev_c) eo_none (sq_of hm3)
    have zz := ei_zipN (K := K) (ta := tVar 3) (ev_var rfl) (sq_of hm3) hb (by simp)
    rw [List.length_map, zip_fst _ _ (by simp), zip_snd (f := fun a : Nat => V.int ((a : Nat) : Int)) u (u.drop 1) (by simp)] at zz
    refine s_ret (ev_is (ev_allL (bs := (u.zip (u.drop 1)).map fun q => fr ps q.1 q.2) ?_) (congrArg V.bl (adj_zip u))) fun H4 e4 => k H4 (((e1.trans e2).trans e3).trans e4)
    rw [List.map_map]
    refine el_lc2 (K := K) (u.zip (u.drop 1)) (fun q => .int ((q.1 : Nat) : Int)) (fun q => .int ((q.2 : Nat) : Int)) _ ?_ (by rw [List.length_zip]; omega) (fun _ _ => rfl) fun q hq H4 e4 => ?_
    · exact zz
    · obtain ⟨q1, q2⟩ := zip_mem hq
      have q1 := hu _ q1
      have q2 := hu _ q2
      refine ev_is (ev_op (x := .int ((fm ps q.1 / 2 ^ q.2 &&& 1 : Nat) : Int)) (ev_op (ev_op (ev_op (ev_var rfl) (ev_var rfl) (rv_ixL (sq_of (e4 _ _ (e3 _ _ hl2))) (atI_nat (vI_at q1)))) (ev_var rfl) rv_shr) ev_c rv_and1) ev_c (rv_eq rfl)) (congrArg V.bl (bit_is co _ _))
end
end Kw

namespace Kw
open PySem PySem.Spec PyProof.Rows

/-! ### words that grow, and what a table counts -/
def lastN (u : List Nat) : Nat := u.getLastD 0
theorem lastN_snoc (u : List Nat) (a : Nat) : lastN (u ++ [a]) = a := by simp [lastN]
def nexts (n : Nat) (R : Nat → Nat → Bool) (x : Nat) : List Nat := (List.range n).filter (R x)
def grow (n : Nat) (R : Nat → Nat → Bool) (ws : List (List Nat)) : List (List Nat) := ws.flatMap fun u => (nexts n R (lastN u)).map fun a => u ++ [a]
def paths (n : Nat) (R : Nat → Nat → Bool) : Nat → List (List Nat)
  | 0 => (List.range n).map fun a => [a]
  | t + 1 => grow n R (paths n R t)
def stp (ps : List (Nat × Nat)) (p : Nat × Nat) (a : Nat) : Nat × Nat := (stepM p.1 a, stepS ps p.1 p.2 a)
def stOf (ps : List (Nat × Nat)) (u : List Nat) : Nat × Nat := u.foldl (stp ps) (0, 0)
theorem stOf_snoc (ps : List (Nat × Nat)) (u : List Nat) (a : Nat) : stOf ps (u ++ [a]) = stp ps (stOf ps u) a := by
  unfold stOf
  rw [List.foldl_append]
  rfl
def kk (a m s : Nat) : K3 := ((a : Nat), ((m : Nat), (s : Nat)))
theorem kk_inj {a m s a' m' s' : Nat} (h : kk a m s = kk a' m' s') : a = a' ∧ m = m' ∧ s = s' := by
  unfold kk at h
  simp only [Prod.mk.injEq] at h
  omega
def keyOf (ps : List (Nat × Nat)) (u : List Nat) : K3 := kk (lastN u) (stOf ps u).1 (stOf ps u).2
def Rf (ps : List (Nat × Nat)) (f : Bool) (x a : Nat) : Bool := a != x && (fr ps x a == f)
/-- the sum of values by a word of the key -/
def S (es : List En) (F : K3 → Int) : Int := (es.map fun e => e.2.2 * F e.1).sum
theorem S_app (es es' : List En) (F : K3 → Int) : S (es ++ es') F = S es F + S es' F := by
  unfold S
  rw [List.map_append, List.sum_append]
theorem S_cons (e : En) (es : List En) (F : K3 → Int) : S (e :: es) F = e.2.2 * F e.1 + S es F := by
  unfold S
  rw [List.map_cons, List.sum_cons]
theorem look_cons {e : En} {es : List En} {k : K3} : look (e :: es) k = if e.1 = k then some e.2.2 else look es k := by
  unfold look
  rw [List.find?_cons]
  by_cases h : e.1 = k
  · rw [decide_eq_true h, if_pos h]
    rfl
  · rw [decide_eq_false h, if_neg h]
theorem look_mem {es : List En} (h : (es.map (·.1)).Nodup) {e : En} (he : e ∈ es) : look es e.1 = some e.2.2 := by
  induction es with
  | nil => cases he
  | cons x t ih =>
    rw [List.map_cons, List.nodup_cons] at h
    rw [look_cons]
    rcases List.mem_cons.mp he with rfl | he
    · rw [if_pos rfl]
    · rw [if_neg (fun z => h.1 (List.mem_map.mpr ⟨e, he, z.symm⟩)), ih h.2 he]
theorem map_other {es : List En} {k : K3} {v : Int} (h : ∀ e ∈ es, e.1 ≠ k) : es.map (fun e => if e.1 = k then (e.1, e.2.1, v) else e) = es := by
  rw [List.map_congr_left (g := id) fun e he => by rw [if_neg (h e he)]; rfl, List.map_id]
theorem S_put {es : List En} (hn : (es.map (·.1)).Nodup) (k : K3) (b : Addr) (c : Int) (F : K3 → Int) : S (nput es k b ((look es k).getD 0 + c)) F = S es F + c * F k := by
  unfold nput
  cases hl : look es k with
  | none =>
    simp only [Option.isSome_none, Bool.false_eq_true, if_false, Option.getD_none, Int.zero_add]
    rw [S_app]
    show S es F + ((c * F k) + 0) = _
    rw [Int.add_zero]
  | some v =>
    simp only [Option.isSome_some, if_true, Option.getD_some]
    induction es with
    | nil => simp [look] at hl
    | cons x t ih =>
      rw [List.map_cons, List.nodup_cons] at hn
      rw [List.map_cons, S_cons, S_cons]
      rw [look_cons] at hl
      by_cases h : x.1 = k
      · rw [if_pos h] at hl
        rw [if_pos h, map_other fun e he z => hn.1 (List.mem_map.mpr ⟨e, he, z.trans h.symm⟩)]
        obtain rfl := Option.some.inj hl
        show (x.2.2 + c) * F x.1 + S t F = _
        rw [h, Int.add_mul]
        omega
      · rw [if_neg h] at hl
        rw [if_neg h, ih hn.2 hl]
        omega
/-- one step on, told on keys -/
def G1 (ps : List (Nat × Nat)) (F : K3 → Int) (m s a : Nat) : Int := F (kk a (stepM m a) (stepS ps m s a))
theorem sum_flatMap {α β : Type} (l : List α) (f : α → List β) (g : β → Int) : ((l.flatMap f).map g).sum = (l.map fun x => ((f x).map g).sum).sum := by
  induction l with
  | nil => rfl
  | cons x t ih => rw [List.flatMap_cons, List.map_append, List.sum_append, ih, List.map_cons, List.sum_cons]
/-- a key is that of some word -/
def Kok (n : Nat) (e : En) : Prop := ∃ a m s : Nat, e.1 = kk a m s ∧ a < n ∧ m < 256
structure Tab (n : Nat) (ps : List (Nat × Nat)) (R : Nat → Nat → Bool) (t : Nat) (es : List En) : Prop where
  nd : (es.map (·.1)).Nodup
  ok : ∀ e ∈ es, Kok n e
  len : es.length ≤ n ^ (t + 1)
  sum : ∀ F : K3 → Int, S es F = ((paths n R t).map fun u => F (keyOf ps u)).sum
/-- F by one step on: of (last, (mask, sign)) -/
def Gn (n : Nat) (ps : List (Nat × Nat)) (R : Nat → Nat → Bool) (F : K3 → Int) (k : K3) : Int := ((nexts n R k.1.toNat).map fun a => G1 ps F k.2.1.toNat k.2.2.toNat a).sum
theorem Gn_kk {n : Nat} {ps : List (Nat × Nat)} {R : Nat → Nat → Bool} {F : K3 → Int} (a m s : Nat) : Gn n ps R F (kk a m s) = ((nexts n R a).map fun a => G1 ps F m s a).sum := by
  unfold Gn kk
  simp only [Int.toNat_natCast]
theorem paths_step {n : Nat} {ps : List (Nat × Nat)} {R : Nat → Nat → Bool} {t : Nat} (F : K3 → Int) : ((paths n R (t + 1)).map fun u => F (keyOf ps u)).sum = ((paths n R t).map fun u => Gn n ps R F (keyOf ps u)).sum := by
  show (((paths n R t).flatMap fun u => (nexts n R (lastN u)).map fun a => u ++ [a]).map fun u => F (keyOf ps u)).sum = _
  rw [sum_flatMap]
  congr 1
  refine List.map_congr_left fun u _ => ?_
  rw [List.map_map]
  unfold keyOf
  rw [Gn_kk]
  congr 1
  refine List.map_congr_left fun a _ => ?_
  show F (kk (lastN (u ++ [a])) (stOf ps (u ++ [a])).1 (stOf ps (u ++ [a])).2) = G1 ps F (stOf ps u).1 (stOf ps u).2 a
  rw [lastN_snoc, stOf_snoc]
  rfl
/-- the first table -/
theorem stepS_zero (ps : List (Nat × Nat)) (a : Nat) : stepS ps 0 0 a = 0 := by
  unfold stepS
  rw [Nat.zero_and]
  decide +kernel
theorem stepM_zero (a : Nat) : stepM 0 a = 2 ^ a := by
  unfold stepM
  rw [Nat.zero_xor]
theorem keyOf_one (ps : List (Nat × Nat)) (a : Nat) : keyOf ps [a] = kk a (2 ^ a) 0 := by
  show kk a (stepM 0 a) (stepS ps 0 0 a) = _
  rw [stepM_zero, stepS_zero]
theorem stepM_lt {m a : Nat} (hm : m < 256) (ha : a < 8) : stepM m a < 256 := Nat.xor_lt_two_pow (n := 8) hm (Nat.lt_of_lt_of_le (Nat.pow_lt_pow_right (by decide) ha) (by decide))
theorem nexts_take {i : Nat} {R : Nat → Nat → Bool} {x : Nat} (g : Nat → Int) : (((List.range (i + 1)).filter (R x)).map g).sum = (((List.range i).filter (R x)).map g).sum + if R x i = true then g i else 0 := by
  rw [List.range_succ, List.filter_append, List.map_append, List.sum_append, List.filter_cons]
  cases h : R x i with
  | true => simp
  | false => simp
end Kw

namespace Kw
open PySem PySem.Spec PyProof.Rows L2 Evl

/-! ### such dicts: what evaluates to what -/
section
variable {P : Program} {w : World} {K : PySem.W.Frag} {σ : L2.St} {H H' : Hp} {ta tb tc te td tk tx : TE} {es : List En} {D : Ends} {tz : TS}
/-- a new pair of ints; a new key -/
def EvP (te : TE) (σ : L2.St) (H : Hp) (m s : Nat) : Prop := ∀ H1, Ex H H1 → ∀ Q : VK, (∀ p H2, H1 p = none → Ex H1 H2 → PrAt H2 p m s → Q (.ref p) H2) → te σ H1 Q
def EvK (te : TE) (σ : L2.St) (H : Hp) (k : K3) : Prop := ∀ H1, Ex H H1 → ∀ Q : VK, (∀ b H2, H1 b = none → Ex H1 H2 → KeyAt H2 b k → Q (.ref b) H2) → te σ H1 Q
theorem ep_two {m s : Nat} (ha : Ev ta σ H (.int (m : Nat))) (hb : Ev tb σ H (.int (s : Nat))) : EvP (tTup (tCons ta (tCons tb tNil))) σ H m s := fun H1 e Q q => eu_two ha hb H1 e Q fun p H2 hp e2 h => q p H2 hp e2 h
theorem ek_two {a m s : Nat} (ha : Ev ta σ H (.int (a : Nat))) (hb : EvP tb σ H m s) : EvK (tTup (tCons ta (tCons tb tNil))) σ H (kk a m s) := fun H1 e Q q => ha H1 e _ fun H2 e2 => hb H2 (e.trans e2) _ fun p H3 hp e3 h => ⟨show 2 ≤ sizeLine by decide, fun b hb =>
  q b _ (fresh_back (e2.trans e3) hb) ((e2.trans e3).trans (Ex.new hb)) ⟨p, upd_same, Ex.new hb _ _ h⟩⟩
theorem ek_two' {a m s : Nat} {c : Addr} (ha : Ev ta σ H (.int (a : Nat))) (hb : Ev tb σ H (.ref c)) (hc : PrAt H c m s) : EvK (tTup (tCons ta (tCons tb tNil))) σ H (kk a m s) := fun H1 e Q q => ha H1 e _ fun H2 e2 => hb H2 (e.trans e2) _ fun H3 e3 => ⟨show 2 ≤ sizeLine by decide, fun b hb =>
  q b _ (fresh_back (e2.trans e3) hb) ((e2.trans e3).trans (Ex.new hb)) ⟨c, upd_same, (((e.trans e2).trans e3).trans (Ex.new hb)) _ _ hc⟩⟩
theorem KeyAt.ex {b : Addr} {k : K3} (h : KeyAt H b k) (e : Ex H H') : KeyAt H' b k := h.mono fun b xs q => e b _ q
theorem q_asgK {i : Nat} {k : K3} (h : EvK te σ H k) (z : ∀ b H1, H b = none → Ex H H1 → KeyAt H1 b k → tz D (σ.set i (some (.ref b))) H1) : tSeq (tAsg te (gName i)) tz D σ H := h H (Ex.refl H) _ fun b H1 hb e h1 => z b H1 hb e h1
theorem ev_ixN {d : Addr} {k : K3} {v : Int} (h : Ev td σ H (.ref d)) (hk : EvK tk σ H k) (hd : ND P w H d es) (hl : look es k = some v) : Ev (tOp (rIxN P w) td tk) σ H (.int v) := fun H1 e Q q => h H1 e _ fun H2 e2 => hk H2 (e.trans e2) _ fun b H3 _ e3 h3 =>
  ⟨d, b, es, k, v, rfl, rfl, hd.mono ((e.trans e2).trans e3), h3, hl, q H3 (e2.trans e3)⟩
theorem ev_ixNv {d b : Addr} {k : K3} {v : Int} (h : Ev td σ H (.ref d)) (hk : Ev tk σ H (.ref b)) (hb : KeyAt H b k) (hd : ND P w H d es) (hl : look es k = some v) : Ev (tOp (rIxN P w) td tk) σ H (.int v) := fun H1 e Q q => h H1 e _ fun H2 e2 => hk H2 (e.trans e2) _ fun H3 e3 =>
  ⟨d, b, es, k, v, rfl, rfl, hd.mono ((e.trans e2).trans e3), hb.ex ((e.trans e2).trans e3), hl, q H3 (e2.trans e3)⟩
theorem ev_getN {d b : Addr} {k : K3} {n : Int} (h : Ev td σ H (.ref d)) (hk : Ev tk σ H (.ref b)) (hx : Ev tx σ H (.int n)) (hb : KeyAt H b k) (hd : ND P w H d es) : Ev (tGetN P w td tk tx) σ H (.int ((look es k).getD n)) := fun H1 e Q q => h H1 e _ fun H2 e2 => ⟨d, es, rfl, hd.mono (e.trans e2), hk H2 (e.trans e2) _ fun H3 e3 => hx H3 ((e.trans e2).trans e3) _ fun H4 e4 =>
  ⟨b, k, n, es, rfl, rfl, hd.mono (((e.trans e2).trans e3).trans e4), hb.ex (((e.trans e2).trans e3).trans e4), q H4 ((e2.trans e3).trans e4)⟩⟩
theorem s_setN {d b : Addr} {k : K3} {v : Int} (hv : Ev te σ H (.int v)) (h : Ev td σ H (.ref d)) (hk : Ev tk σ H (.ref b)) (hb : KeyAt H b k) (hd : NDm P w H d es) (hz : es.length < sizeLine) (z : ∀ H1, Ex H H1 → D.nx σ (upd H1 d (NDo P w d (nput es k b v)))) :
    tAsg te (gSub td tk (rSetN P w)) D σ H := hv H (Ex.refl H) _ fun H1 e1 => h H1 e1 _ fun H2 e2 => hk H2 (e1.trans e2) _ fun H3 e3 =>
  ⟨d, b, es, k, v, rfl, rfl, rfl, hd.mono ((e1.trans e2).trans e3), hb.ex ((e1.trans e2).trans e3), hz, z H3 ((e1.trans e2).trans e3)⟩
theorem q_par3L {i j l : Nat} {xs ys zs : List V} (ha : EvL ta σ H xs) (hb : EvL tb σ H ys) (hc : EvL tc σ H zs) (k : ∀ p q r H1, H p = none → H q = none → H r = none → Ex H H1 → H1 p = some (.lst xs) → H1 q = some (.lst ys) → H1 r = some (.lst zs) →
    tz D (((σ.set i (some (.ref p))).set j (some (.ref q))).set l (some (.ref r))) H1) : tSeq (tPar3 i j l (tCons ta (tCons tb (tCons tc tNil)))) tz D σ H := ha H (Ex.refl H) _ fun p H1 hp e1 h1 => hb H1 e1 _ fun q H2 hq e2 h2 => hc H2 (e1.trans e2) _ fun r H3 hr e3 h3 =>
  ⟨.ref p, .ref q, .ref r, rfl, k p q r H3 hp (fresh_back e1 hq) (fresh_back (e1.trans e2) hr) ((e1.trans e2).trans e3) (e3 _ _ (e2 _ _ h1)) (e3 _ _ h2) h3⟩
/-- a comprehension that makes such a dict -/
theorem dcN_it {J : It} {n : Nat} {G : Hp → Prop} {Y : Nat → Hp → V → Hp → Prop} {g : TG} {tv : TE} {vs : List Nat} {H1 : Hp} {L : Addr} {Q : VK} (W : Walk J n G Y) (Pv : Nat → Hp → Prop) (h0 : Pv 0 (upd H1 L (NDo P w L []))) (hG : ∀ i H, i ≤ n → Pv i H → G H)
    (hs : ∀ i x H H', i < n → Pv i H → Y i H x H' → g x (wipe σ vs) H' fun σ2 H2 => wipe σ2 vs = wipe σ vs ∧ tk σ2 H2 fun y H4 => tv σ2 H4 fun z H5 => ∃ es k b m, y = .ref b ∧ z = .int m ∧ NDm P w H5 L es ∧ KeyAt H5 b k ∧ es.length < sizeLine ∧ Pv (i + 1) (upd H5 L (NDo P w L (nput es k b m))))
    (hd : ∀ H, Pv n H → Q (.ref L) H) :
    ∃ W : Nat → Nat → Hp → Prop, (∃ m, W 0 m (upd H1 L (NDo P w L []))) ∧ ∀ i m H, W i m H →
      (J.stop i H ∧ Q (.ref L) H) ∨ (J.go i H ∧ ∃ Nx : Hp → Prop, (∀ H', Nx H' → ∃ m', m' < m ∧ W (i + 1) m' H') ∧ ∀ x H', J.yld i H x H' → g x (wipe σ vs) H' fun σ2 H2 => wipe σ2 vs = wipe σ vs ∧
        tk σ2 H2 fun y H4 => tv σ2 H4 fun z H5 => ∃ es k b n, y = .ref b ∧ z = .int n ∧ NDm P w H5 L es ∧ KeyAt H5 b k ∧ es.length < sizeLine ∧ Nx (upd H5 L (NDo P w L (nput es k b n)))) := by
  refine ⟨fun i m H => m = n - i ∧ i ≤ n ∧ Pv i H, ⟨n, by simp, Nat.zero_le _, h0⟩, ?_⟩
  rintro i m H ⟨rfl, hi, p⟩
  have q := hG i H hi p
  by_cases hlt : i < n
  · exact .inr ⟨W.goes i H hlt q, Pv (i + 1), fun H' p' => ⟨n - (i + 1), by omega, rfl, hlt, p'⟩, fun x H' y => hs i x H H' hlt p (W.yields i H x H' hlt q y)⟩
  · have e : i = n := by omega
    subst e
    exact .inl ⟨W.stops H q, hd H p⟩
theorem q_dcN {wi : TI} {g : TG} {tv : TE} {vs : List Nat} {i : Nat} {xs : List V} (hi : EvI K wi σ H xs) (Pv : Hp → Addr → Nat → Hp → Prop) (h0 : ∀ H2 L, Ex H H2 → H2 L = none → Pv H2 L 0 (upd H2 L (NDo P w L []))) (hex : ∀ H2 L j H', Pv H2 L j H' → Ex H2 H')
    (hs : ∀ H2 L j x H', xs[j]? = some x → j < xs.length → Ex H H2 → H2 L = none → Pv H2 L j H' → g x (wipe σ vs) H' fun σ2 H3 => wipe σ2 vs = wipe σ vs ∧ tk σ2 H3 fun y H4 => tv σ2 H4 fun z H5 => ∃ es k b m, y = .ref b ∧ z = .int m ∧ NDm P w H5 L es ∧ KeyAt H5 b k ∧ es.length < sizeLine ∧ Pv H2 L (j + 1) (upd H5 L (NDo P w L (nput es k b m))))
    (hd : ∀ H2 L H', Ex H H2 → H2 L = none → Pv H2 L xs.length H' → tz D (σ.set i (some (.ref L))) H') : tSeq (tAsg (tDcN P w wi g tk tv vs) (gName i)) tz D σ H := hi H (Ex.refl H) _ fun J H2 e2 ⟨G, W, hG⟩ L hL =>
  dcN_it (Q := fun v H3 => tz D (σ.set i (some v)) H3) W (Pv H2 L) (h0 H2 L e2 hL) (fun j H' _ p => hG H' (hex _ _ _ _ p)) (fun j x H' H'' hj p y => by
    obtain ⟨rfl, hx⟩ := y
    exact hs H2 L j x _ hx hj e2 hL p) (fun H' p => hd H2 L H' e2 hL p)
theorem NDm.upd_other {d L : Addr} {o : HO} (h : NDm P w H d es) (hne : d ≠ L) (ht : ∀ xs, H L ≠ some (.tup xs)) : NDm P w (upd H L o) d es := ⟨by rw [upd_ne hne]; exact h.1, fun e he => (h.2 e he).mono fun b xs q => tu_upd ht b xs q⟩
theorem NDm.put {d b : Addr} {k : K3} {v : Int} (h : NDm P w H d es) (hb : KeyAt H b k) : NDm P w (upd H d (NDo P w d (nput es k b v))) d (nput es k b v) := by
  have ht : ∀ xs, H d ≠ some (.tup xs) := fun xs z => by rw [h.1] at z; cases z
  refine ⟨upd_same, fun e he => ?_⟩
  rcases nput_mem he with ⟨e', h1, h2, h3⟩ | ⟨h1, h2⟩
  · rw [← h2, ← h3]
    exact (h.2 e' h1).mono fun b xs q => tu_upd ht b xs q
  · rw [h1, h2]
    exact hb.mono fun b xs q => tu_upd ht b xs q
end
theorem nput_kok {n : Nat} {es : List En} {k : K3} {b : Addr} {v : Int} {p : K3 → Prop} (h : ∀ e ∈ es, p e.1) (hk : p k) : ∀ e ∈ nput es k b v, p e.1 := fun e he => by
  rcases nput_mem he with ⟨e', h1, h2, _⟩ | ⟨h1, _⟩
  · rw [← h2]
    exact h e' h1
  · rw [h1]
    exact hk
/-- within the loop over the table: what stands -/
structure Mid (P : Program) (w : World) (n : Nat) (B H : Hp) (d : Addr) (od : Obj) (es : List En) (L : Addr) (es' : List En) : Prop where
  ex : Ex B H
  fz : H d = some (.frz od (NDo P w d es))
  ks : ∀ e ∈ es, KeyAt H e.2.1 e.1
  la : NDm P w H L es'
  nd : (es'.map (·.1)).Nodup
  ok : ∀ e ∈ es', Kok n e
section
variable {P : Program} {w : World} {n : Nat} {B H H' : Hp} {d L : Addr} {od : Obj} {es es' : List En}
theorem Mid.mono (m : Mid P w n B H d od es L es') (e : Ex H H') : Mid P w n B H' d od es L es' := ⟨m.ex.trans e, e _ _ m.fz, fun x hx => (m.ks x hx).ex e, m.la.mono e, m.nd, m.ok⟩
theorem Mid.found (m : Mid P w n B H d od es L es') : ND P w H d es := ⟨.inr ⟨od, m.fz⟩, m.ks⟩
theorem Mid.put (m : Mid P w n B H d od es L es') (hL : B L = none) {b : Addr} {k : K3} {v : Int} (hb : KeyAt H b k) (hk : ∃ a m s : Nat, k = kk a m s ∧ a < n ∧ m < 256) : Mid P w n B (upd H L (NDo P w L (nput es' k b v))) d od es L (nput es' k b v) := by
  have ht : ∀ xs, H L ≠ some (.tup xs) := fun xs z => by rw [m.la.1] at z; cases z
  have hne : d ≠ L := fun z => by have := m.fz; rw [z, m.la.1] at this; cases this
  exact ⟨Ex.mut m.ex hL, by rw [upd_ne hne]; exact m.fz, fun e he => (m.ks e he).mono fun b xs q => tu_upd ht b xs q, m.la.put hb, nput_nodup k b v m.nd, nput_kok (n := n) (p := fun k => ∃ a m s : Nat, k = kk a m s ∧ a < n ∧ m < 256) m.ok hk⟩
end
theorem rf_test {ps : List (Nat × Nat)} {f : Bool} {a j : Nat} : ((!decide (V.int ((j : Nat) : Int) = V.int ((a : Nat) : Int))) && decide (V.bl (fr ps a j) = V.bl f)) = Rf ps f a j := by
  unfold Rf
  have h1 : decide (V.int ((j : Nat) : Int) = V.int ((a : Nat) : Int)) = (j == a) := by
    rw [Bool.beq_eq_decide_eq]
    exact decide_eq_decide.mpr ⟨fun h => by have := V.int.inj h; omega, fun h => by rw [h]⟩
  have h2 : decide (V.bl (fr ps a j) = V.bl f) = (fr ps a j == f) := by
    rw [Bool.beq_eq_decide_eq]
    exact decide_eq_decide.mpr ⟨fun h => V.bl.inj h, fun h => by rw [h]⟩
  rw [h1, h2]
  rfl
end Kw

namespace Kw
open PySem PySem.Spec PyProof.Rows L2 Evl

def spTable (P : Program) (w : World) : Sp := fun vs H Q _ => ∃ (c : Addr) (n : Nat) (ps : List (Nat × Nat)) (t : Nat) (f : Bool), vs = [.ref c, .int ((t + 1 : Nat) : Int), .bl f] ∧ Co n ps ∧ CoAt H c n ps ∧ n ≤ 4 ∧ t ≤ 7 ∧
  ∀ p H2 es, H p = none → Ex H H2 → NDm P w H2 p es → Tab n ps (Rf ps f) t es → Q (.ref p) H2
section
variable {P : Program} {w : World} {K : PySem.W.Frag} {mg : Str → Option Value} {base : Heap} {σ : L2.St} {H : Hp}
theorem ep_step {ta : TA} {p cl ol : Addr} {m s a n : Nat} {ps : List (Nat × Nat)} (h : EvA ta σ H [.ref p, .int (a : Nat), .ref cl, .ref ol]) (hp : H p = some (.tup [.int (m : Nat), .int (s : Nat)])) (hc : H cl = some (.lst (vI (cv ps) n))) (ho : H ol = some (.lst ((odds 8).map fun t => .int ((t : Nat) : Int)))) (ha : a < n) (hn : n ≤ 8) (hm : m < 256) :
    EvP (tCall spStepped [] E0 ta) σ H (stepM m a) (stepS ps m s a) := fun H1 e Q q => h H1 e _ fun H2 e2 => ⟨p, cl, ol, m, s, a, n, ps, rfl, (e.trans e2) _ _ hp, (e.trans e2) _ _ hc, (e.trans e2) _ _ ho, ha, hn, hm, fun p H3 hp e3 h3 => q p H3 (fresh_back e2 hp) (e2.trans e3) h3⟩
theorem ok_walk_table {f fF  fV  fO  fS : Addr} {fd fdF  fdV  fdO  fdS : FuncData} (D : Df K mg "walk_table" s_walk_table ["company", "length", "is_friendly"] f fd) (B : Bt mg)
    (DF : Df K mg "friends_of_all" s_friends_of_all ["company"] fF fdF) (GF : FnOk P w K mg base CX0 1 fF fdF ["company"] spFriends)
    (DV : Df K mg "covers" s_covers ["company"] fV fdV) (GV : FnOk P w K mg base CX0 2 fV fdV ["company"] spCovers)
    (DO : Df K mg "oddness" s_oddness [] fO fdO) (GO : FnOk P w K mg base CX0 1 fO fdO [] spOdd)
    (DS : Df K mg "stepped" s_stepped ["pair", "at", "cover", "odd"] fS fdS) (GS : FnOk P w K mg base CX0 1 fS fdS ["pair", "at", "cover", "odd"] spStepped) : FnOk P w K mg base CX0 3 f fd ["company", "length", "is_friendly"] (spTable P w) := by
  refine D.F.ok sc_walk_table (fun vs H Q E h => ?_) (fun cdv A outer s H vs Q E hr h => ?_)
  · obtain ⟨c, n, ps, t, f, rfl, _⟩ := h
    rfl
  · obtain ⟨c, n, ps, t, f, rfl, co, hc, hn, ht, k⟩ := h
    have nd := sc_walk_table.nd
    refine ⟨_, (pss_cons (ps_par3 (i := 3) (j := 4) (l := 5) rfl nd rfl rfl rfl (by decide) (by decide) (by decide) rfl rfl rfl (pa_cons (pcall DF GF (hr.mono (by decide)) (pa_cons (pv 0) pa_nil)) (pa_cons (pcall DV GV hr (pa_cons (pv 0) pa_nil)) (pa_cons (pcall0 DO GO (hr.mono (by decide))) pa_nil))) (by rfl))
      (pss_cons (ps_setDcN (i := 6) (own := [("at", 7)]) (g := gName 7) hr.units rfl nd rfl rfl (sw_dict rfl rfl rfl (by decide +kernel)) (pi_range1 rfl B.range (pa_cons (pe_ix ix_tup (pv 0) pe_int (fun _ _ => rfl)) pa_nil)) (blkOk_by (N := ["company", "length", "is_friendly", "told", "cover", "odd", "found", "at", "turn", "later", "last", "pair", "key"]) (sc := (defScope s_walk_table)) (by decide +kernel)) (fun _ _ _ _ _ => (pg_name (i := 7) nd rfl (Or.inl rfl))) (fun _ _ _ _ _ => (pe_tup (pa_cons (pv 7) (pa_cons (pe_tup (pa_cons (pe_op op_shl pe_int (pv 7)) (pa_cons pe_int pa_nil))) pa_nil)))) (fun _ _ _ _ _ => pe_int))
      (pss_cons (ps_for PassesOwn.never rfl (pi_range1 rfl B.range (pa_cons (pe_op op_sub (pv 1) pe_int) pa_nil)) (pg_name (i := 8) nd rfl (Or.inl rfl)) (pss_cons (ps_set (i := 9) nd rfl (Or.inl rfl) pe_dnewN)
      (pss_cons (ps_lock (ps_for PassesOwn.never rfl (pi_keysN (pv 6)) (pg_tup (by rfl) (pgs_cons (pg_name (i := 10) nd rfl (Or.inl rfl)) (pgs_cons (pg_name (i := 11) nd rfl (Or.inl rfl)) pgs_nil))) (pss_one (ps_for PassesOwn.never rfl (pi_range1 rfl B.range (pa_cons (pe_ix ix_tup (pv 0) pe_int (fun _ _ => rfl)) pa_nil)) (pg_name (i := 7) nd rfl (Or.inl rfl)) (pss_one (ps_if (PW.pt (pw_and (pt_cmpR op_ne (pv 7) (pv 10) (nomark _)) (pw_and1 (pt_cmpR op_eq (pe_cmpR op_eq (pe_op op_and (pe_op op_shr (pe_ix ix_list (pv 3) (pv 10) (fun _ _ => rfl)) (pv 7)) pe_int) pe_int (nomark _)) (pv 2) (nomark _))))) (pss_cons (ps_asg (pe_tup (pa_cons (pv 7) (pa_cons (pcall DS GS (hr.mono (by decide)) (pa_cons (pv 11) (pa_cons (pv 7) (pa_cons (pv 4) (pa_cons (pv 5) pa_nil))))) pa_nil))) (pg_name (i := 12) nd rfl (Or.inl rfl)))
      (pss_one (ps_asg (pe_op op_add (pe_getN hr.units (pv 9) (pv 12) pe_int ⟨rfl, rfl, rfl, rfl⟩) (pe_ix (ix_nd hr.units) (pv 6) (pe_tup (pa_cons (pv 10) (pa_cons (pv 11) pa_nil))) (fun _ _ => rfl))) (pg_sub (pv 9) (pv 12) (set_nd hr.units))))) pss_nil))))))
      (pss_one (ps_set (i := 6) nd rfl (Or.inl rfl) (pv 9))))))
      (pss_one (ps_ret (pv 6)))))), ?_⟩
    have h8 := co.hi
    have h2 := co.lo
    refine q_par3L (el_call (vs := [.ref c]) (ea_cons (ev_var rfl) ea_nil) fun H2 e2 Q' q' E' => ⟨c, n, ps, rfl, co, hc.mono (tu_ex e2), fun p H2 hp e2 h2 => q' p H2 hp e2 h2⟩) (el_call (vs := [.ref c]) (ea_cons (ev_var rfl) ea_nil) fun H2 e2 Q' q' E' => ⟨c, n, ps, rfl, co, hc.mono (tu_ex e2), fun p H2 hp e2 h2 => q' p H2 hp e2 h2⟩)
      (el_call (vs := []) ea_nil fun H2 e2 Q' q' E' => ⟨rfl, fun p H2 hp e2 h2 => q' p H2 hp e2 h2⟩) fun tl cl ol B _ _ _ eB htl hcl hol => ?_
    have sz : sizeLine > 100000 := by decide
    -- the first table
    have hrg := ei_rng1 (K := K) (ta := tCons (tOp (rIxT K) (tVar 0) (tC (.int 0))) tNil) (H := B) (σ := [some (.ref c), some (.int ((t + 1 : Nat) : Int)), some (.bl f), some (.ref tl), some (.ref cl), some (.ref ol), none, none, none, none, none, none, none]) (n := (n : Nat)) (ea_cons (ev_co0 (te := tVar 0) (ev_var rfl) (hc.mono (tu_ex eB))) ea_nil) (by omega) (by omega)
    refine q_dcN hrg (fun B1 d i H' => Ex B1 H' ∧ ∃ es, NDm P w H' d es ∧ (es.map (·.1)).Nodup ∧ (∀ e ∈ es, ∃ a m s : Nat, e.1 = kk a m s ∧ a < i ∧ m < 256) ∧ es.length ≤ i ∧ ∀ F, S es F = ((List.range i).map fun a => F (kk a (2 ^ a) 0)).sum) ?_ (fun _ _ _ _ p => p.1) ?_ ?_
    · intro B1 d eB1 hd
      exact ⟨Ex.new hd, [], ⟨upd_same, fun e he => (by cases he)⟩, List.nodup_nil, fun e he => (by cases he), Nat.le_refl _, fun F => rfl⟩
    · rintro B1 d i x H'' hx hi eB1 hd ⟨ee, es, nd1, nd2, ok, hl, hS⟩
      rw [vInts_len, Int.toNat_natCast] at hi
      rw [vInts_at (by rw [Int.toNat_natCast]; exact hi), Int.zero_add] at hx
      obtain rfl := Option.some.inj hx
      refine ⟨rfl, ?_⟩
      refine ek_two (a := i) (m := 2 ^ i) (s := 0) (ev_var rfl) (ep_two (ev_op ev_c (ev_var rfl) (rv_shl1 (by omega))) ev_c) H'' (Ex.refl _) _ fun b H3 hb e3 hkb => ?_
      have hno : look es (kk i (2 ^ i) 0) = none := by
        cases hlk : look es (kk i (2 ^ i) 0) with
        | none => rfl
        | some v =>
          exfalso
          obtain ⟨e, he, h⟩ : ∃ e ∈ es, e.1 = kk i (2 ^ i) 0 := by
            have hs : (es.find? fun e => decide (e.1 = kk i (2 ^ i) 0)).isSome := by
              unfold look at hlk
              cases hf : es.find? fun e => decide (e.1 = kk i (2 ^ i) 0) with
              | none => rw [hf] at hlk; cases hlk
              | some e => rfl
            obtain ⟨e, he, h⟩ := List.find?_isSome.mp hs
            exact ⟨e, he, of_decide_eq_true h⟩
          obtain ⟨a, m, s, h1, h2, _⟩ := ok e he
          have := (kk_inj (h1.symm.trans h)).1
          omega
      have nd1' := nd1.mono e3
      have hdB := hd
      refine ⟨es, kk i (2 ^ i) 0, b, 1, rfl, rfl, nd1', hkb, by omega, Ex.mut (ee.trans e3) hd, nput es (kk i (2 ^ i) 0) b 1, nd1'.put hkb, nput_nodup _ _ _ nd2, ?_, Nat.le_trans (nput_length es _ b 1) (by omega), fun F => ?_⟩
      · exact nput_kok (n := n) (p := fun k => ∃ a m s : Nat, k = kk a m s ∧ a < i + 1 ∧ m < 256) (fun e he => by obtain ⟨a, m, s, h1, h2, h3⟩ := ok e he; exact ⟨a, m, s, h1, by omega, h3⟩) ⟨i, 2 ^ i, 0, rfl, by omega, Nat.lt_of_lt_of_le (Nat.pow_lt_pow_right (by decide) (show i < 4 by omega)) (by decide)⟩
      · have := S_put nd2 (kk i (2 ^ i) 0) b 1 F
        rw [hno] at this
        simp only [Option.getD_none, Int.zero_add] at this
        rw [this, hS F, List.range_succ, List.map_append, List.sum_append]
        simp
    · rintro B1 d H' eB1 hd ⟨ee, es, nd1, nd2, ok, hl, hS⟩
      rw [vInts_len, Int.toNat_natCast] at hl hS ok
      have hdB : B d = none := fresh_back eB1 hd
      have tab0 : Tab n ps (Rf ps f) 0 es := ⟨nd2, ok, by simpa using hl, fun F => by
        rw [hS F]
        show _ = (((List.range n).map fun a => [a]).map fun u => F (keyOf ps u)).sum
        rw [List.map_map]
        congr 1
        exact List.map_congr_left fun a _ => by show _ = F (keyOf ps [a]); rw [keyOf_one]⟩
      have exB : Ex B H' := eB1.trans ee
      have tlt : t ≤ 7 := ht
      refine q_forR1 (n := (t : Nat)) (ea_cons (ev_is (ev_op (ev_var rfl) ev_c rv_I0) (congrArg V.int (show ((t + 1 : Nat) : Int) - 1 = (t : Nat) by omega))) ea_nil) (by omega)
        (fun i σ' H' => ∃ d es x7 x8 x9 x10 x11 x12, σ' = [some (.ref c), some (.int ((t + 1 : Nat) : Int)), some (.bl f), some (.ref tl), some (.ref cl), some (.ref ol), some (.ref d), x7, x8, x9, x10, x11, x12] ∧ B d = none ∧ Ex B H' ∧ NDm P w H' d es ∧ Tab n ps (Rf ps f) i es)
        (fun H2 e2 => ⟨d, es, _, _, _, _, _, _, rfl, hdB, exB.trans e2, nd1.mono e2, tab0⟩) ?_ ?_
      · clear nd1 nd2 ok hl hS tab0 exB ee hdB es hd d
        rintro i σ' H2 hi ⟨d, es, x7, x8, x9, x10, x11, x12, rfl, hdB, exB, nd1, tab⟩
        have hlen : es.length * n + n ≤ 100000 := by
          have h1 := tab.len
          have h2 : n ^ (i + 1) ≤ 4 ^ 7 := Nat.le_trans (Nat.pow_le_pow_left hn _) (Nat.pow_le_pow_right (by decide) (by omega))
          have h3 : es.length * n ≤ 4 ^ 7 * 4 := Nat.mul_le_mul (Nat.le_trans h1 h2) hn
          have h4 : 4 ^ 7 * 4 + 4 ≤ 100000 := by decide
          omega
        refine fun L hL => ?_
        have hLB : B L = none := fresh_back exB hL
        have hdL : d ≠ L := fun z => by have := nd1.1; rw [z, hL] at this; cases this
        have nL : NDm P w (upd H2 L (NDo P w L [])) d es := nd1.mono (Ex.new hL)
        have htd : ∀ xs, (upd H2 L (NDo P w L [])) d ≠ some (.tup xs) := fun xs z => by rw [nL.1] at z; cases z
        refine ⟨d, NDo P w d es, nL.1, trivial, fun od => ?_⟩
        refine ⟨.ref d, rfl, d, od, es, rfl, upd_same, ?_⟩
        refine for_it walk_keysN (fun i2 σ' H' => ∃ x7 x10 x11 x12 es', σ' = [some (.ref c), some (.int ((t + 1 : Nat) : Int)), some (.bl f), some (.ref tl), some (.ref cl), some (.ref ol), some (.ref d), x7, some (.int (i : Nat)), some (.ref L), x10, x11, x12] ∧ Mid P w n B H' d od es L es' ∧ es'.length ≤ i2 * n ∧
          ∀ F, S es' F = ((es.take i2).map fun e => e.2.2 * Gn n ps (Rf ps f) F e.1).sum) ?_ (fun i2 σ' H' _ p => by obtain ⟨_, _, _, _, _, _, m, _⟩ := p; exact m.fz) ?_ ?_
        · refine ⟨_, _, _, _, [], rfl, ⟨?_, upd_same, fun e he => (nL.2 e he).mono fun b xs q => tu_upd htd b xs q, ⟨(by rw [upd_ne (Ne.symm hdL), upd_same]; rfl), fun e he => (by cases he)⟩, List.nodup_nil, fun e he => (by cases he)⟩, by simp, fun F => rfl⟩
          exact Ex.mut (exB.trans (Ex.new hL)) hdB
        · rintro i2 x σ' H3 H4 hi2 ⟨x7, x10, x11, x12, es', rfl, mid, hl, hS⟩ ⟨rfl, e, he, rfl⟩
          have hem : e ∈ es := List.mem_of_getElem? he
          obtain ⟨a, m, s, hk, ha, hm⟩ := tab.ok e hem
          obtain ⟨cc, hc1, hc2⟩ := mid.ks e hem
          rw [hk] at hc1 hc2
          refine g_two hc1 ?_
          refine s_forR1 (n := (n : Nat)) (ea_cons (ev_co0 (ev_var rfl) (hc.mono (tu_ex (eB.trans mid.ex)))) ea_nil) (by omega) (fun j σ' H' => ∃ x7 x12 es'', σ' = [some (.ref c), some (.int ((t + 1 : Nat) : Int)), some (.bl f), some (.ref tl), some (.ref cl), some (.ref ol), some (.ref d), x7, some (.int (i : Nat)), some (.ref L), some (.int (a : Nat)), some (.ref cc), x12] ∧ H' cc = some (.tup [.int (m : Nat), .int (s : Nat)]) ∧ Mid P w n B H' d od es L es'' ∧ es''.length ≤ i2 * n + j ∧
            ∀ F, S es'' F = ((es.take i2).map fun e => e.2.2 * Gn n ps (Rf ps f) F e.1).sum + e.2.2 * (((List.range j).filter (Rf ps f a)).map fun b => G1 ps F m s b).sum) (fun H5 e5 => ⟨_, _, es', rfl, e5 _ _ hc2, mid.mono e5, by omega, fun F => by rw [hS F]; simp⟩) ?_ ?_
          · clear hc2 hc1 mid hl hS es'
            rintro j σ' H5 hj ⟨x7, x12, es', rfl, hc2, mid, hl, hS⟩
            have hj : j < n := by omega
            have hz : i2 * n + j < 100000 := by
              have := Nat.mul_le_mul_right n (show i2 ≤ es.length by omega)
              omega
            refine s_when (b := Rf ps f a j) (et_is (et_and (et_test (ev_op (ev_var rfl) (ev_var rfl) (rv_ne rfl))) fun _ => et_test (ev_op (y := .bl f) (ev_is (ev_op (x := .int ((fm ps a / 2 ^ j &&& 1 : Nat) : Int)) (ev_op (ev_op (ev_op (ev_var rfl) (ev_var rfl) (rv_ixL (sq_of (mid.ex _ _ htl)) (atI_nat (vI_at ha)))) (ev_var rfl) rv_shr) ev_c rv_and1) ev_c (rv_eq rfl)) (congrArg V.bl (bit_is co _ _))) (ev_var rfl) (rv_eq rfl))) rf_test) (fun hr H6 e6 => ?_) (fun hr H6 e6 => ?_)
            · have mid := mid.mono e6
              have hc2 := e6 _ _ hc2
              refine q_asgK (ek_two (ev_var rfl) (ep_step (ea_cons (ev_var rfl) (ea_cons (ev_var rfl) (ea_cons (ev_var rfl) (ea_cons (ev_var rfl) ea_nil)))) hc2 (mid.ex _ _ hcl) (mid.ex _ _ hol) hj h8 hm)) fun b H7 hb e7 hkb => ?_
              have mid := mid.mono e7
              refine s_setN (ev_op (ev_getN (ev_var rfl) (ev_var rfl) ev_c hkb mid.la.nd) (ev_ixN (ev_var rfl) (ek_two' (ev_var rfl) (ev_var rfl) (e7 _ _ hc2)) mid.found (hk ▸ look_mem tab.nd hem)) rv_I0) (ev_var rfl) (ev_var rfl) hkb mid.la (Nat.lt_of_le_of_lt hl (Nat.lt_trans hz sz)) fun H8 e8 => ?_
              have mid := mid.mono e8
              have htl : ∀ xs, H8 L ≠ some (.tup xs) := fun xs z => by rw [mid.la.1] at z; cases z
              refine ⟨_, _, _, rfl, tu_upd htl _ _ (e8 _ _ (e7 _ _ hc2)), mid.put hLB (hkb.ex e8) ⟨j, _, _, rfl, hj, stepM_lt hm (by omega)⟩, Nat.le_trans (nput_length _ _ _ _) (by omega), fun F => ?_⟩
              rw [S_put mid.nd, hS F, nexts_take, if_pos hr, Int.mul_add, Int.add_assoc]
              rfl
            · refine ⟨_, _, es', rfl, e6 _ _ hc2, mid.mono e6, by omega, fun F => ?_⟩
              rw [hS F, nexts_take, if_neg (by rw [hr]; decide), Int.add_zero]
          · rintro σ' H5 ⟨x7, x12, es'', rfl, _, mid, hl, hS⟩
            refine ⟨_, _, _, _, es'', rfl, mid, by rw [Nat.succ_mul]; omega, fun F => ?_⟩
            rw [hS F, take_snoc he, List.map_append, List.sum_append, Int.toNat_natCast]
            congr 1
            show _ = e.2.2 * Gn n ps (Rf ps f) F e.1 + 0
            rw [hk, Gn_kk, Int.add_zero]
            rfl
        · rintro σ' H3 ⟨x7, x10, x11, x12, es', rfl, mid, hl, hS⟩
          refine ⟨mid.fz, ?_⟩
          rw [List.take_length] at hS
          have htd3 : ∀ xs, H3 d ≠ some (.tup xs) := fun xs z => by rw [mid.fz] at z; cases z
          refine s_asg (ev_var rfl) fun H4 e4 => ⟨L, es', _, _, _, _, _, _, rfl, hLB, (Ex.mut mid.ex hdB).trans e4, (mid.la.upd_other (Ne.symm hdL) htd3).mono e4, mid.nd, mid.ok, ?_, fun F => ?_⟩
          · exact Nat.le_trans hl (Nat.mul_le_mul_right n tab.len)
          · rw [hS F, paths_step, ← tab.sum]
            rfl
      · rintro σ' H2 ⟨d, es, x7, x8, x9, x10, x11, x12, rfl, hdB, exB, nd1, tab⟩
        refine s_ret (ev_var rfl) fun H3 e3 => k d H3 es (fresh_back eB hdB) ((eB.trans exB).trans e3) (nd1.mono e3) tab
end
end Kw

namespace Kw
open PySem PySem.Spec PyProof.Rows L2 Evl

def prI (m s : Int) : PyData := .tuple [.int m, .int s]
theorem prI_shaped (m s : Int) : SeqAt.shaped (prI m s) = true := by
  have h2 : (prI m s).depth ≤ 64 := by
    simp only [prI, PyData.depth, PyData.depthAll]
    decide
  have h1 : (prI m s).canLay0 = true := by simp only [prI, PyData.canLay0, PyData.canLayAll0]; rfl
  show ((prI m s).canLay0 && decide ((prI m s).depth ≤ 64)) = true
  rw [h1, decide_eq_true h2]
  rfl
theorem prI_eqv (m s m' s' : Int) : PyData.eqv (prI m s) (prI m' s') = decide (m = m' ∧ s = s') := by
  simp only [prI, PyData.eqv, PyData.eqvAll, Bool.and_true, Bool.beq_eq_decide_eq, Bool.decide_and]
/-- how many words of a kind -/
def cnt (n : Nat) (ps : List (Nat × Nat)) (f : Bool) (t m s : Nat) : Nat := ((paths n (Rf ps f) t).filter fun u => decide (stOf ps u = (m, s))).length
def spTotal : Sp := fun vs H Q _ => ∃ (c k : Addr) (n : Nat) (ps : List (Nat × Nat)) (u : List Nat) (s t : Nat) (f : Bool), vs = [.ref c, .ref k, .int ((t + 1 : Nat) : Int), .bl f] ∧ Co n ps ∧ CoAt H c n ps ∧ KiAt H k u s ∧ Ki n u s ∧ n ≤ 4 ∧ t ≤ 7 ∧ RetV (.int (cnt n ps f t (psum u) s : Nat)) H Q
def spCount (f : Bool) : Sp := fun vs H Q _ => ∃ (c k : Addr) (n : Nat) (ps : List (Nat × Nat)) (u : List Nat) (s t : Nat), vs = [.ref c, .ref k, .int ((t + 1 : Nat) : Int)] ∧ Co n ps ∧ CoAt H c n ps ∧ KiAt H k u s ∧ Ki n u s ∧ n ≤ 4 ∧ t ≤ 7 ∧ RetV (.int (cnt n ps f t (psum u) s : Nat)) H Q
def spAll : Sp := fun vs H Q _ => ∃ (c : Addr) (n : Nat) (ps : List (Nat × Nat)) (t : Nat), vs = [.ref c, .int ((t + 1 : Nat) : Int)] ∧ Co n ps ∧ CoAt H c n ps ∧ n ≤ 4 ∧ t ≤ 7 ∧ RetV (.int ((paths n (Rf ps true) t).length : Nat)) H Q
theorem sum_filter (es : List En) (p : En → Bool) (F : K3 → Int) (h : ∀ e ∈ es, F e.1 = if p e then 1 else 0) : ((es.filter p).map (·.2.2)).sum = S es F := by
  induction es with
  | nil => rfl
  | cons e t ih =>
    rw [S_cons, ← ih fun x hx => h x (List.mem_cons_of_mem _ hx), h e List.mem_cons_self, List.filter_cons]
    cases p e with
    | true => simp
    | false => simp
theorem sum_ones {α : Type} (l : List α) (p : α → Bool) : (l.map fun x => if p x then (1 : Int) else 0).sum = ((l.filter p).length : Nat) := by
  induction l with
  | nil => rfl
  | cons x t ih =>
    rw [List.map_cons, List.sum_cons, ih, List.filter_cons]
    cases p x with
    | true => simp; omega
    | false => simp
/-- the words of a kind, by the key -/
def Fk (m s : Nat) (k : K3) : Int := if decide (k.2.1 = (m : Int) ∧ k.2.2 = (s : Int)) then 1 else 0
theorem tab_cnt {n : Nat} {ps : List (Nat × Nat)} {f : Bool} {t m s : Nat} {es : List En} (h : Tab n ps (Rf ps f) t es) : S es (Fk m s) = (cnt n ps f t m s : Nat) := by
  rw [h.sum]
  unfold cnt
  rw [← sum_ones]
  congr 1
  refine List.map_congr_left fun u _ => ?_
  show (if decide ((((stOf ps u).1 : Nat) : Int) = (m : Int) ∧ (((stOf ps u).2 : Nat) : Int) = (s : Int)) then (1 : Int) else 0) = _
  congr 2
  refine decide_eq_decide.mpr ⟨fun ⟨a, b⟩ => Prod.ext (by omega) (by omega), fun h => ?_⟩
  rw [h]
  exact ⟨rfl, rfl⟩
theorem tab_all {n : Nat} {ps : List (Nat × Nat)} {R : Nat → Nat → Bool} {t : Nat} {es : List En} (h : Tab n ps R t es) : (es.map (·.2.2)).sum = ((paths n R t).length : Nat) := by
  have := h.sum fun _ => 1
  unfold S at this
  rw [show (es.map fun e => e.2.2 * 1) = es.map (·.2.2) from List.map_congr_left fun e _ => Int.mul_one _] at this
  rw [this]
  induction paths n R t with
  | nil => rfl
  | cons x l ih =>
    rw [List.map_cons, List.sum_cons, ih, List.length_cons]
    omega
section
variable {P : Program} {w : World} {K : PySem.W.Frag} {mg : Str → Option Value} {base : Heap} {σ : L2.St} {H : Hp}
theorem ev_needCo {c : Addr} {n : Nat} {ps : List (Nat × Nat)} {ta : TA} (h : EvA ta σ H [.ref c]) (co : Co n ps) (hc : CoAt H c n ps) : Ev (tCall spNeedCo [] E0 ta) σ H .non := ev_call (vs := [.ref c]) h fun H1 e1 Q' q' E' => ⟨c, n, ps, rfl, co, hc.mono (tu_ex e1), q'⟩
theorem q_tab {D : Ends} {tz : TS} {ta : TA} {i t : Nat} {c : Addr} {n : Nat} {ps : List (Nat × Nat)} {f : Bool} (h : EvA ta σ H [.ref c, .int ((t + 1 : Nat) : Int), .bl f]) (co : Co n ps) (hc : CoAt H c n ps) (hn : n ≤ 4) (ht : t ≤ 7)
    (k : ∀ d es H1, H d = none → Ex H H1 → NDm P w H1 d es → Tab n ps (Rf ps f) t es → tz D (σ.set i (some (.ref d))) H1) : tSeq (tAsg (tCall (spTable P w) [] E0 ta) (gName i)) tz D σ H := h H (Ex.refl _) _ fun H4 e4 =>
  ⟨c, n, ps, t, f, rfl, co, hc.mono (tu_ex e4), hn, ht, fun d H5 es hd e5 nd tab => k d es H5 (fresh_back e4 hd) (e4.trans e5) nd tab⟩
theorem ev_sumV {ta : TA} {t : Nat} {c : Addr} {n : Nat} {ps : List (Nat × Nat)} {f : Bool} (h : EvA ta σ H [.ref c, .int ((t + 1 : Nat) : Int), .bl f]) (co : Co n ps) (hc : CoAt H c n ps) (hn : n ≤ 4) (ht : t ≤ 7) :
    Ev (tCB (rSumVN P w) (tCons (tValsN P w (tCall (spTable P w) [] E0 ta)) tNil)) σ H (.int ((paths n (Rf ps f) t).length : Nat)) := fun H1 e1 Q q => h H1 e1 _ fun H4 e4 =>
  ⟨c, n, ps, t, f, rfl, co, hc.mono (tu_ex (e1.trans e4)), hn, ht, fun d H5 es hd e5 nd tab => ⟨d, es, rfl, nd.nd, fun p hp => ⟨p, d, es, rfl, upd_same, nd.nd.mono (Ex.new hp), by
    rw [tab_all tab]
    exact q _ ((e4.trans e5).trans (Ex.new hp))⟩⟩⟩
/-- as el_lc, the walk's own word known -/
theorem el_lcR {α : Type} {wi : TI} {tt : TT} {te : TE} {j : Nat} {vs : List Nat} (as : List α) (item : α → V) (p : α → Bool) (g : α → V) (hi : EvI K wi σ H (as.map item)) (hz : as.length ≤ sizeLine) (hw : ∀ x, wipe ((wipe σ vs).set j (some x)) vs = wipe σ vs)
    (ht : ∀ a ∈ as, ∀ H1, Ex H H1 → EvT tt ((wipe σ vs).set j (some (item a))) H1 (p a)) (he : ∀ a ∈ as, p a = true → ∀ H1, Ex H H1 → Ev te ((wipe σ vs).set j (some (item a))) H1 (g a)) :
    EvL (tLc wi (gName j) tt te vs) σ H ((as.filter p).map g) := el_lc (K := K) as item p g hi hz hw ht he
theorem ok_total_for {f fC  fK  fN  fW  fI : Addr} {fd fdC  fdK  fdN  fdW  fdI : FuncData} (D : Df K mg "total_for" s_total_for ["company", "kind", "length", "is_friendly"] f fd) (B : Bt mg)
    (DC : Df K mg "need_company" s_need_company ["company"] fC fdC) (GC : FnOk P w K mg base CX0 3 fC fdC ["company"] spNeedCo)
    (DK : Df K mg "need_kind" s_need_kind ["company", "kind"] fK fdK) (GK : FnOk P w K mg base CX0 4 fK fdK ["company", "kind"] spNeedKind)
    (DN : Df K mg "need_number" s_need_number ["value", "low", "high"] fN fdN) (GN : FnOk P w K mg base CX0 3 fN fdN ["value", "low", "high"] spNeedNumber)
    (DW : Df K mg "walk_table" s_walk_table ["company", "length", "is_friendly"] fW fdW) (GW : FnOk P w K mg base CX0 3 fW fdW ["company", "length", "is_friendly"] (spTable P w))
    (DI : Df K mg "inner" s_inner ["kind"] fI fdI) (GI : FnOk P w K mg base CX0 2 fI fdI ["kind"] spInner) : FnOk P w K mg base CX0 5 f fd ["company", "kind", "length", "is_friendly"] spTotal := by
  refine D.F.ok sc_total_for (fun vs H Q E h => ?_) (fun cdv A outer s H vs Q E hr h => ?_)
  · obtain ⟨c, g, n, ps, u, s, t, f, rfl, _⟩ := h
    rfl
  · obtain ⟨c, g, n, ps, u, s, t, f, rfl, co, hc, hk, ki, hn, ht, k⟩ := h
    have nd := sc_total_for.nd
    refine ⟨_, (pss_cons (ps_expr (pcall DC GC (hr.mono (by decide)) (pa_cons (pv 0) pa_nil)))
      (pss_cons (ps_expr (pcall DK GK hr (pa_cons (pv 0) (pa_cons (pv 1) pa_nil))))
      (pss_cons (ps_expr (pcall DN GN (hr.mono (by decide)) (pa_cons (pv 2) (pa_cons pe_int (pa_cons (pg_word B rfl) pa_nil)))))
      (pss_cons (ps_set (i := 4) nd rfl (Or.inr rfl) (pcall DW GW (hr.mono (by decide)) (pa_cons (pv 0) (pa_cons (pv 2) (pa_cons (pv 3) pa_nil)))))
      (pss_one (ps_ret (pe_callB (cr_sum rfl) (by rfl) B.sum (by decide +kernel) (pa_cons (pe_lock (pe_lc (own := [("key", 5)]) (g := gName 5) (wi := iKeysN P w (tVar 4)) (tt := tTest (tOp (rEqD K) (tOp (rIxT K) (tVar 5) (tC (.int 1))) (tCall spInner [] E0 (tCons (tVar 1) tNil)))) (te := tOp (rIxN P w) (tVar 4) (tVar 5)) rfl nd (pi_keysN (pv 4)) (blkOk_by (N := ["company", "kind", "length", "is_friendly", "table", "key"]) (sc := (defScope s_total_for)) (by decide +kernel)) (fun _ _ _ _ _ => pg_name (i := 5) nd rfl (Or.inl rfl)) (fun _ _ _ _ _ => pts_one (pt_cmpR (op_eqD hr.units) (pe_ix ix_tup (pv 5) pe_int (fun _ _ => rfl)) (pcall DI GI (hr.mono (by decide)) (pa_cons (pv 1) pa_nil)) (nomark _))) (fun _ _ _ _ _ => pe_ix (ix_nd hr.units) (pv 4) (pv 5) (fun _ _ => rfl)))) pa_nil)))))))), ?_⟩
    have h8 := co.hi
    refine q_drop (ev_needCo (ea_cons (ev_var rfl) ea_nil) co hc) fun H1 e1 => ?_
    refine q_drop (ev_call (vs := [.ref c, .ref g]) (z := .non) (ea_cons (ev_var rfl) (ea_cons (ev_var rfl) ea_nil)) fun H2 e2 Q' q' E' => ⟨c, n, ps, g, u, s, rfl, co, hc.mono (tu_ex (e1.trans e2)), hk.mono (tu_ex (e1.trans e2)), ki, q'⟩) fun H2 e2 => ?_
    refine q_drop (ev_call (vs := [.int ((t + 1 : Nat) : Int), .int 1, .int 60]) (z := .non) (ea_cons (ev_var rfl) (ea_cons ev_c (ea_cons ev_c ea_nil))) fun H3 e3 Q' q' E' => ⟨_, _, _, rfl, by omega, by omega, q'⟩) fun H3 e3 => ?_
    have e03 := (e1.trans e2).trans e3
    refine q_tab (ea_cons (ev_var rfl) (ea_cons (ev_var rfl) (ea_cons (ev_var rfl) ea_nil))) co (hc.mono (tu_ex e03)) hn ht fun d es H5 hd e5 nd tab => ?_
    have e05 := e03.trans e5
    have hdH : H d = none := fresh_back e03 hd
    refine ⟨d, NDo P w d es, nd.1, trivial, fun od => ?_⟩
    have htd : ∀ xs, H5 d ≠ some (.tup xs) := fun xs z => by rw [nd.1] at z; cases z
    have exH : Ex H (upd H5 d (.frz od (NDo P w d es))) := Ex.mut e05 hdH
    have ks : ∀ e ∈ es, KeyAt (upd H5 d (.frz od (NDo P w d es))) e.2.1 e.1 := fun e he => (nd.2 e he).mono fun b xs q => tu_upd htd b xs q
    generalize hB : upd H5 d (.frz od (NDo P w d es)) = B0 at exH ks
    have hfz : B0 d = some (.frz od (NDo P w d es)) := by rw [← hB]; exact upd_same
    have hlen : es.length ≤ sizeLine := by
      refine Nat.le_trans tab.len (Nat.le_trans (Nat.le_trans (Nat.pow_le_pow_left hn _) (Nat.pow_le_pow_right (by decide) (show t + 1 ≤ 8 by omega))) (by decide))
    have lce := el_lcR (K := K) (tt := tTest (tOp (rEqD K) (tOp (rIxT K) (tVar 5) (tC (.int 1))) (tCall spInner [] E0 (tCons (tVar 1) tNil)))) (te := tOp (rIxN P w) (tVar 4) (tVar 5)) (σ := [some (.ref c), some (.ref g), some (.int ((t + 1 : Nat) : Int)), some (.bl f), some (.ref d), none]) (H := B0) (j := 5) (vs := [5]) (wi := iKeysN P w (tVar 4)) es (fun e => .ref e.2.1)
      (fun e => decide (e.1.2.1 = ((psum u : Nat) : Int) ∧ e.1.2.2 = (s : Int))) (fun e => .int e.2.2) ?_ hlen (fun _ => rfl) ?_ ?_
    · refine lce B0 (Ex.refl _) _ fun l H6 hl e6 hl6 => ⟨e6 _ _ hfz, l, ((es.filter fun e => decide (e.1.2.1 = ((psum u : Nat) : Int) ∧ e.1.2.2 = (s : Int))).map fun e => e.2.2), rfl, ?_, ?_⟩
      · refine sq_of ?_
        rw [upd_ne (fun z => by rw [z, hfz] at hl; cases hl), hl6, List.map_map]
        rfl
      · have := sum_filter es (fun e => decide (e.1.2.1 = ((psum u : Nat) : Int) ∧ e.1.2.2 = (s : Int))) (Fk (psum u) s) fun e he => rfl
        rw [this, tab_cnt tab]
        exact k _ (Ex.mut (exH.trans e6) hdH)
    · intro H6 e6 R q
      have W : Walk (ItN P w d od es) (es.map fun e => V.ref e.2.1).length (fun H => H d = some (.frz od (NDo P w d es))) (YAt (es.map fun e => V.ref e.2.1)) := by
        rw [List.length_map]
        refine (walk_keysN (P := P) (w := w) (d := d) (o := od) (es := es)).mono (fun _ h => h) fun i H x H' _ _ y => ?_
        obtain ⟨h1, e, he, h2⟩ := y
        exact ⟨h1, by rw [List.getElem?_map, he, h2]; rfl⟩
      exact ⟨.ref d, rfl, d, od, es, rfl, e6 _ _ hfz, q _ _ (Ex.refl _) ⟨_, W, fun H7 e7 => e7 _ _ (e6 _ _ hfz)⟩⟩
    · intro e he H6 e6
      obtain ⟨cc, hc1, hc2⟩ := ks e he
      refine et_test fun H7 e7 Q q => ev_op (x := .ref e.2.1) (ev_var rfl) (ev_c (v := .int 1)) (rv_ixP (j := 1) (H := H6) (e6 _ _ hc1) rfl) H7 e7 _ fun H8 e8 => ?_
      refine (ea_cons (ev_var (v := .ref g) rfl) ea_nil : EvA (tCons (tVar 1) tNil) _ H6 [.ref g]) H8 (e7.trans e8) _ fun H9 e9 => ⟨g, u, n, s, rfl, hk.mono (tu_ex ((((exH.trans e6).trans e7).trans e8).trans e9)), ki, h8, fun r H10 hr e10 hpr => ?_⟩
      refine ⟨prI e.1.2.1 e.1.2.2, prI ((psum u : Nat) : Int) (s : Int), .tup (st_of (((((e6.trans e7).trans e8).trans e9).trans e10) _ _ hc2)) (.cons (.int _) (.cons (.int _) .nil)), .tup (st_of hpr) (.cons (.int _) (.cons (.int _) .nil)), prI_shaped _ _, prI_shaped _ _, ?_⟩
      rw [prI_eqv]
      exact q H10 ((e8.trans e9).trans e10)
    · intro e he hp H6 e6
      exact ev_ixNv (ev_var rfl) (ev_var rfl) ((ks e he).ex e6) ⟨.inr ⟨od, e6 _ _ hfz⟩, fun x hx => (ks x hx).ex e6⟩ (look_mem tab.nd he)
theorem ok_count_walks {f fT : Addr} {fd fdT : FuncData} (D : Df K mg "count_walks" s_count_walks ["company", "kind", "length"] f fd)
    (DT : Df K mg "total_for" s_total_for ["company", "kind", "length", "is_friendly"] fT fdT) (GT : FnOk P w K mg base CX0 5 fT fdT ["company", "kind", "length", "is_friendly"] spTotal) : FnOk P w K mg base CX0 6 f fd ["company", "kind", "length"] (spCount true) := by
  refine D.F.ok sc_count_walks (fun vs H Q E h => ?_) (fun cdv A outer s H vs Q E hr h => ?_)
  · obtain ⟨c, g, n, ps, u, s, t, rfl, _⟩ := h
    rfl
  · obtain ⟨c, g, n, ps, u, s, t, rfl, co, hc, hk, ki, hn, ht, k⟩ := h
    have nd := sc_count_walks.nd
    refine ⟨_, (pss_one (ps_ret (pcall DT GT hr (pa_cons (pv 0) (pa_cons (pv 1) (pa_cons (pv 2) (pa_cons pe_bl pa_nil))))))), ?_⟩
    exact s_ret (ev_call (vs := [.ref c, .ref g, .int ((t + 1 : Nat) : Int), .bl true]) (ea_cons (ev_var rfl) (ea_cons (ev_var rfl) (ea_cons (ev_var rfl) (ea_cons ev_c ea_nil)))) fun H1 e1 Q' q' E' => ⟨c, g, n, ps, u, s, t, true, rfl, co, hc.mono (tu_ex e1), hk.mono (tu_ex e1), ki, hn, ht, q'⟩) k
theorem ok_count_shy {f fT : Addr} {fd fdT : FuncData} (D : Df K mg "count_shy" s_count_shy ["company", "kind", "length"] f fd)
    (DT : Df K mg "total_for" s_total_for ["company", "kind", "length", "is_friendly"] fT fdT) (GT : FnOk P w K mg base CX0 5 fT fdT ["company", "kind", "length", "is_friendly"] spTotal) : FnOk P w K mg base CX0 6 f fd ["company", "kind", "length"] (spCount false) := by
  refine D.F.ok sc_count_shy (fun vs H Q E h => ?_) (fun cdv A outer s H vs Q E hr h => ?_)
  · obtain ⟨c, g, n, ps, u, s, t, rfl, _⟩ := h
    rfl
  · obtain ⟨c, g, n, ps, u, s, t, rfl, co, hc, hk, ki, hn, ht, k⟩ := h
    have nd := sc_count_shy.nd
    refine ⟨_, (pss_one (ps_ret (pcall DT GT hr (pa_cons (pv 0) (pa_cons (pv 1) (pa_cons (pv 2) (pa_cons pe_bl pa_nil))))))), ?_⟩
    exact s_ret (ev_call (vs := [.ref c, .ref g, .int ((t + 1 : Nat) : Int), .bl false]) (ea_cons (ev_var rfl) (ea_cons (ev_var rfl) (ea_cons (ev_var rfl) (ea_cons ev_c ea_nil)))) fun H1 e1 Q' q' E' => ⟨c, g, n, ps, u, s, t, false, rfl, co, hc.mono (tu_ex e1), hk.mono (tu_ex e1), ki, hn, ht, q'⟩) k
theorem ok_all_walks {f fC  fN  fW : Addr} {fd fdC  fdN  fdW : FuncData} (D : Df K mg "all_walks" s_all_walks ["company", "length"] f fd) (B : Bt mg)
    (DC : Df K mg "need_company" s_need_company ["company"] fC fdC) (GC : FnOk P w K mg base CX0 3 fC fdC ["company"] spNeedCo)
    (DN : Df K mg "need_number" s_need_number ["value", "low", "high"] fN fdN) (GN : FnOk P w K mg base CX0 3 fN fdN ["value", "low", "high"] spNeedNumber)
    (DW : Df K mg "walk_table" s_walk_table ["company", "length", "is_friendly"] fW fdW) (GW : FnOk P w K mg base CX0 3 fW fdW ["company", "length", "is_friendly"] (spTable P w)) : FnOk P w K mg base CX0 4 f fd ["company", "length"] spAll := by
  refine D.F.ok sc_all_walks (fun vs H Q E h => ?_) (fun cdv A outer s H vs Q E hr h => ?_)
  · obtain ⟨c, n, ps, t, rfl, _⟩ := h
    rfl
  · obtain ⟨c, n, ps, t, rfl, co, hc, hn, ht, k⟩ := h
    have nd := sc_all_walks.nd
    refine ⟨_, (pss_cons (ps_expr (pcall DC GC hr (pa_cons (pv 0) pa_nil)))
      (pss_cons (ps_expr (pcall DN GN hr (pa_cons (pv 1) (pa_cons pe_int (pa_cons (pg_word B rfl) pa_nil)))))
      (pss_one (ps_ret (pe_callB (cr_sumVN rfl) (by rfl) B.sum (by decide +kernel) (pa_cons (pe_valuesN (pcall DW GW hr (pa_cons (pv 0) (pa_cons (pv 1) (pa_cons pe_bl pa_nil))))) pa_nil)))))), ?_⟩
    refine q_drop (ev_needCo (ea_cons (ev_var rfl) ea_nil) co hc) fun H1 e1 => ?_
    refine q_drop (ev_call (vs := [.int ((t + 1 : Nat) : Int), .int 1, .int 60]) (z := .non) (ea_cons (ev_var rfl) (ea_cons ev_c (ea_cons ev_c ea_nil))) fun H3 e3 Q' q' E' => ⟨_, _, _, rfl, by omega, by omega, q'⟩) fun H3 e3 => ?_
    have e03 := e1.trans e3
    exact s_ret (ev_sumV (ea_cons (ev_var rfl) (ea_cons (ev_var rfl) (ea_cons ev_c ea_nil))) co (hc.mono (tu_ex e03)) hn ht) fun H4 e4 => k _ (e03.trans e4)
end
end Kw

namespace Kw
open PySem PySem.Spec PyProof.Rows

theorem nodup_len : ∀ (n : Nat) (l : List Nat), l.Nodup → (∀ x ∈ l, x < n) → l.length ≤ n
  | 0, l, _, h => by
    cases l with
    | nil => exact Nat.le_refl _
    | cons a t => exact absurd (h a List.mem_cons_self) (Nat.not_lt_zero _)
  | n + 1, l, nd, h => by
    have ih := nodup_len n (l.erase n) (nd.erase n) fun x hx => by
      have h1 := (nd.mem_erase_iff).mp hx
      have := h x h1.2
      have := h1.1
      omega
    rw [List.length_erase] at ih
    split at ih <;> omega
/-! ### simple paths, the first that end well -/
def sOk (ps : List (Nat × Nat)) (u : List Nat) (a : Nat) : Bool := !u.contains a && fr ps (lastN u) a
def sgrow (n : Nat) (ps : List (Nat × Nat)) (ws : List (List Nat)) : List (List Nat) := ws.flatMap fun u => ((List.range n).filter (sOk ps u)).map fun a => u ++ [a]
def rows (n : Nat) (ps : List (Nat × Nat)) (a : Nat) : Nat → List (List Nat)
  | 0 => [[a]]
  | t + 1 => sgrow n ps (rows n ps a t)
def ends (n : Nat) (ps : List (Nat × Nat)) (a b t : Nat) : List (List Nat) := (rows n ps a t).filter fun u => decide (lastN u = b)
def goalAt (n : Nat) (ps : List (Nat × Nat)) (a b : Nat) : Nat → Option (List Nat)
  | 0 => (ends n ps a b 0).head?
  | t + 1 => match goalAt n ps a b t with
    | some u => some u
    | none => (ends n ps a b (t + 1)).head?
/-- the rim, and the letters seen ahead of it -/
def rgrow (n : Nat) (ps : List (Nat × Nat)) (seen : List Nat) (ws : List (List Nat)) : List (List Nat) := ws.flatMap fun u => ((List.range n).filter fun a => fr ps (lastN u) a && !seen.contains a).map fun a => u ++ [a]
def rim (n : Nat) (ps : List (Nat × Nat)) (a : Nat) : Nat → List (List Nat) × List Nat
  | 0 => ([[a]], [])
  | t + 1 => (rgrow n ps ((rim n ps a t).2 ++ (rim n ps a t).1.map lastN) (rim n ps a t).1, (rim n ps a t).2 ++ (rim n ps a t).1.map lastN)
section
variable {n : Nat} {ps : List (Nat × Nat)} {a b : Nat}
theorem mem_sgrow {ws : List (List Nat)} {v : List Nat} : v ∈ sgrow n ps ws ↔ ∃ u ∈ ws, ∃ x, x < n ∧ x ∉ u ∧ fr ps (lastN u) x = true ∧ v = u ++ [x] := by
  unfold sgrow
  rw [List.mem_flatMap]
  constructor
  · rintro ⟨u, hu, h⟩
    obtain ⟨x, hx, rfl⟩ := List.mem_map.mp h
    obtain ⟨h1, h2⟩ := List.mem_filter.mp hx
    simp only [sOk, Bool.and_eq_true, Bool.not_eq_true', List.contains_eq_mem, decide_eq_false_iff_not] at h2
    exact ⟨u, hu, x, List.mem_range.mp h1, h2.1, h2.2, rfl⟩
  · rintro ⟨u, hu, x, h1, h2, h3, rfl⟩
    refine ⟨u, hu, List.mem_map.mpr ⟨x, List.mem_filter.mpr ⟨List.mem_range.mpr h1, ?_⟩, rfl⟩⟩
    simp only [sOk, Bool.and_eq_true, Bool.not_eq_true', List.contains_eq_mem, decide_eq_false_iff_not]
    exact ⟨h2, h3⟩
theorem rows_nodup (ha : a < n) : ∀ t, ∀ u ∈ rows n ps a t, u.length = t + 1 ∧ u.Nodup ∧ ∀ x ∈ u, x < n
  | 0, u, hu => by
    obtain rfl : u = [a] := by simpa [rows] using hu
    exact ⟨rfl, by simp, by simpa using ha⟩
  | t + 1, v, hv => by
    obtain ⟨u, hu, x, h1, h2, h3, rfl⟩ := mem_sgrow.mp hv
    obtain ⟨i1, i2, i3⟩ := rows_nodup ha t u hu
    refine ⟨by rw [List.length_append, i1]; rfl, ?_, fun y hy => ?_⟩
    · rw [List.nodup_append]
      exact ⟨i2, by simp, fun y hy z hz e => by
        obtain rfl : z = x := by simpa using hz
        exact h2 (e ▸ hy)⟩
    · rcases List.mem_append.mp hy with hy | hy
      · exact i3 y hy
      · obtain rfl : y = x := by simpa using hy
        exact h1
theorem rows_nil (ha : a < n) {t : Nat} (ht : n ≤ t) : rows n ps a t = [] := by
  cases h : rows n ps a t with
  | nil => rfl
  | cons u l =>
    have hu : u ∈ rows n ps a t := by rw [h]; exact List.mem_cons_self
    obtain ⟨i1, i2, i3⟩ := rows_nodup ha t u hu
    have := nodup_len n u i2 i3
    omega
/-- each letter of a path is the last of one that is as short -/
theorem rows_pre : ∀ t, ∀ u ∈ rows n ps a t, ∀ y ∈ u, ∃ s, s ≤ t ∧ ∃ v ∈ rows n ps a s, lastN v = y
  | 0, u, hu, y, hy => by
    obtain rfl : u = [a] := by simpa [rows] using hu
    obtain rfl : y = a := by simpa using hy
    exact ⟨0, Nat.le_refl _, [y], hu, rfl⟩
  | t + 1, w, hw, y, hy => by
    obtain ⟨u, hu, x, h1, h2, h3, rfl⟩ := mem_sgrow.mp hw
    rcases List.mem_append.mp hy with hy | hy
    · obtain ⟨s, hs, v, hv, e⟩ := rows_pre t u hu y hy
      exact ⟨s, by omega, v, hv, e⟩
    · obtain rfl : y = x := by simpa using hy
      exact ⟨t + 1, Nat.le_refl _, _, hw, lastN_snoc u y⟩
/-- one step of the rim, told by the simple paths -/
theorem flat_filter {α β : Type} (l : List α) (p : α → Bool) (f g : α → List β) (q : β → Bool) (h1 : ∀ x ∈ l, p x = true → f x = (g x).filter q) (h2 : ∀ x ∈ l, p x = false → (g x).filter q = []) : (l.filter p).flatMap f = (l.flatMap g).filter q := by
  induction l with
  | nil => rfl
  | cons x t ih =>
    have it := ih (fun y hy => h1 y (List.mem_cons_of_mem _ hy)) (fun y hy => h2 y (List.mem_cons_of_mem _ hy))
    rw [List.flatMap_cons, List.filter_append, ← it, List.filter_cons]
    cases hp : p x with
    | true =>
      rw [if_pos rfl, List.flatMap_cons, h1 x List.mem_cons_self hp]
    | false =>
      rw [if_neg (by decide), h2 x List.mem_cons_self hp, List.nil_append]
theorem rim_is : ∀ t, (rim n ps a t).1 = (rows n ps a t).filter (fun u => !(rim n ps a t).2.contains (lastN u)) ∧ ∀ x, x ∈ (rim n ps a t).2 ↔ ∃ s, s < t ∧ ∃ u ∈ rows n ps a s, lastN u = x
  | 0 => by
    refine ⟨rfl, fun x => ⟨fun h => (by cases h), fun ⟨s, hs, _⟩ => absurd hs (Nat.not_lt_zero _)⟩⟩
  | t + 1 => by
    obtain ⟨i1, i2⟩ := rim_is t
    have pre : ∀ x, x ∈ (rim n ps a (t + 1)).2 ↔ ∃ s, s < t + 1 ∧ ∃ u ∈ rows n ps a s, lastN u = x := by
      intro x
      show x ∈ (rim n ps a t).2 ++ (rim n ps a t).1.map lastN ↔ _
      rw [List.mem_append, i2, List.mem_map]
      constructor
      · rintro (⟨s, hs, u, hu, e⟩ | ⟨u, hu, e⟩)
        · exact ⟨s, by omega, u, hu, e⟩
        · rw [i1] at hu
          exact ⟨t, by omega, u, (List.mem_filter.mp hu).1, e⟩
      · rintro ⟨s, hs, u, hu, e⟩
        by_cases h : x ∈ (rim n ps a t).2
        · exact .inl ((i2 x).mp h)
        · refine .inr ⟨u, ?_, e⟩
          have : s = t := by
            rcases Nat.lt_or_ge s t with h1 | h1
            · exact absurd ((i2 x).mpr ⟨s, h1, u, hu, e⟩) h
            · omega
          subst this
          rw [i1]
          exact List.mem_filter.mpr ⟨hu, by rw [e]; simpa using h⟩
    refine ⟨?_, pre⟩
    show rgrow n ps (rim n ps a (t + 1)).2 (rim n ps a t).1 = (sgrow n ps (rows n ps a t)).filter _
    rw [i1]
    unfold rgrow sgrow
    refine flat_filter _ _ _ _ _ (fun u hu hp => ?_) (fun u hu hp => ?_)
    · rw [List.filter_map, List.filter_filter]
      congr 1
      refine List.filter_congr fun x hx => ?_
      show (fr ps (lastN u) x && !(rim n ps a (t + 1)).2.contains x) = ((!(rim n ps a (t + 1)).2.contains (lastN (u ++ [x]))) && sOk ps u x)
      rw [lastN_snoc]
      unfold sOk
      cases hc : (rim n ps a (t + 1)).2.contains x with
      | true => simp
      | false =>
        have hnu : u.contains x = false := by
          rw [List.contains_eq_mem, decide_eq_false_iff_not] at hc ⊢
          intro hxu
          obtain ⟨s, hs, v, hv, e⟩ := rows_pre t u hu x hxu
          exact hc ((pre x).mpr ⟨s, by omega, v, hv, e⟩)
        rw [hnu]
        simp
    · rw [List.filter_map, List.filter_filter]
      have hmem : lastN u ∈ (rim n ps a t).2 := by
        rw [Bool.not_eq_false', List.contains_eq_mem, decide_eq_true_eq] at hp
        exact hp
      obtain ⟨s, hs, v, hv, e⟩ := (i2 _).mp hmem
      rw [List.filter_eq_nil_iff.mpr, List.map_nil]
      intro x hx
      have hx := List.mem_range.mp hx
      show ¬ ((!(rim n ps a (t + 1)).2.contains (lastN (u ++ [x]))) && sOk ps u x) = true
      rw [lastN_snoc]
      intro h
      rw [Bool.and_eq_true, Bool.not_eq_true', List.contains_eq_mem, decide_eq_false_iff_not] at h
      obtain ⟨h1, h2⟩ := h
      unfold sOk at h2
      rw [Bool.and_eq_true] at h2
      refine h1 ((pre x).mpr ?_)
      by_cases hxv : x ∈ v
      · obtain ⟨s', hs', v', hv', e'⟩ := rows_pre s v hv x hxv
        exact ⟨s', by omega, v', hv', e'⟩
      · exact ⟨s + 1, by omega, v ++ [x], mem_sgrow.mpr ⟨v, hv, x, hx, hxv, by rw [e]; exact h2.2, rfl⟩, lastN_snoc v x⟩
theorem rim_ends {t : Nat} (hb : b ∉ (rim n ps a t).2) : (rim n ps a t).1.filter (fun u => decide (lastN u = b)) = ends n ps a b t := by
  rw [(rim_is t).1, List.filter_filter]
  unfold ends
  refine List.filter_congr fun u _ => ?_
  by_cases e : lastN u = b
  · rw [decide_eq_true e, e, List.contains_eq_mem, decide_eq_false hb]
    rfl
  · rw [decide_eq_false e]
    rfl
theorem goal_none {t : Nat} : goalAt n ps a b t = none ↔ ∀ s, s ≤ t → ends n ps a b s = [] := by
  induction t with
  | zero =>
    show (ends n ps a b 0).head? = none ↔ _
    rw [List.head?_eq_none_iff]
    exact ⟨fun h s hs => by rw [show s = 0 by omega]; exact h, fun h => h 0 (Nat.le_refl _)⟩
  | succ t ih =>
    unfold goalAt
    cases h : goalAt n ps a b t with
    | some u =>
      rw [h] at ih
      refine ⟨fun h => (by cases h), fun h2 => ?_⟩
      exact absurd (ih.mpr fun s hs => h2 s (by omega)) (by simp)
    | none =>
      rw [h] at ih
      have ih := ih.mp rfl
      show (ends n ps a b (t + 1)).head? = none ↔ _
      rw [List.head?_eq_none_iff]
      exact ⟨fun h2 s hs => by
        rcases Nat.lt_or_ge s (t + 1) with h3 | h3
        · exact ih s (by omega)
        · rw [show s = t + 1 by omega]; exact h2, fun h2 => h2 _ (Nat.le_refl _)⟩
theorem goal_stays {t s : Nat} {u : List Nat} (h : goalAt n ps a b t = some u) (hs : t ≤ s) : goalAt n ps a b s = some u := by
  induction s with
  | zero => rw [show 0 = t by omega]; exact h
  | succ s ih =>
    rcases Nat.lt_or_ge s t with h1 | h1
    · rw [show s + 1 = t by omega]; exact h
    · unfold goalAt
      rw [ih h1]
theorem goal_first {t : Nat} (hb : b ∉ (rim n ps a t).2) (u : List Nat) (l : List (List Nat)) (h : ends n ps a b t = u :: l) (ht : t ≤ n) : goalAt n ps a b n = some u := by
  have hno : ∀ s, s < t → ends n ps a b s = [] := fun s hs => by
    cases e : ends n ps a b s with
    | nil => rfl
    | cons v l =>
      have hv : v ∈ ends n ps a b s := by rw [e]; exact List.mem_cons_self
      obtain ⟨h1, h2⟩ := List.mem_filter.mp hv
      exact absurd (((rim_is t).2 b).mpr ⟨s, hs, v, h1, of_decide_eq_true h2⟩) hb
  refine goal_stays (t := t) ?_ ht
  cases t with
  | zero =>
    show (ends n ps a b 0).head? = _
    rw [h]
    rfl
  | succ t =>
    unfold goalAt
    rw [goal_none.mpr fun s hs => hno s (by omega)]
    show (ends n ps a b (t + 1)).head? = _
    rw [h]
    rfl
theorem rim_stop {t : Nat} (h : (rim n ps a t).1 = []) : ∀ d, (rim n ps a (t + d)).1 = [] ∧ (rim n ps a (t + d)).2 = (rim n ps a t).2
  | 0 => ⟨h, rfl⟩
  | d + 1 => by
    obtain ⟨i1, i2⟩ := rim_stop h d
    show rgrow n ps _ (rim n ps a (t + d)).1 = [] ∧ (rim n ps a (t + d)).2 ++ (rim n ps a (t + d)).1.map lastN = _
    rw [i1, i2]
    exact ⟨rfl, by simp⟩
theorem goal_last {t : Nat} (hb : b ∉ (rim n ps a t).2) (h : (rim n ps a t).1 = []) : goalAt n ps a b n = none := by
  refine goal_none.mpr fun s hs => ?_
  rcases Nat.lt_or_ge s t with h1 | h1
  · cases e : ends n ps a b s with
    | nil => rfl
    | cons v l =>
      have hv : v ∈ ends n ps a b s := by rw [e]; exact List.mem_cons_self
      obtain ⟨h3, h2⟩ := List.mem_filter.mp hv
      exact absurd (((rim_is t).2 b).mpr ⟨s, h1, v, h3, of_decide_eq_true h2⟩) hb
  · obtain ⟨d, rfl⟩ : ∃ d, s = t + d := ⟨s - t, by omega⟩
    obtain ⟨i1, i2⟩ := rim_stop h d
    rw [← rim_ends (by rw [i2]; exact hb), i1]
    rfl
theorem rim_nil (ha : a < n) : (rim n ps a n).1 = [] := by rw [(rim_is n).1, rows_nil ha (Nat.le_refl _)]; rfl
theorem rim_next (hb : b ∉ (rim n ps a t).2) (h : (rim n ps a t).1.filter (fun u => decide (lastN u = b)) = []) : b ∉ (rim n ps a (t + 1)).2 := by
  show b ∉ (rim n ps a t).2 ++ (rim n ps a t).1.map lastN
  rw [List.mem_append]
  rintro (h1 | h1)
  · exact hb h1
  · obtain ⟨u, hu, e⟩ := List.mem_map.mp h1
    have := List.filter_eq_nil_iff.mp h u hu
    exact this (decide_eq_true e)
/-- sizes -/
theorem grow_len (ws : List (List Nat)) (f : List Nat → Nat → Bool) : (ws.flatMap fun u => ((List.range n).filter (f u)).map fun a => u ++ [a]).length ≤ ws.length * n := by
  induction ws with
  | nil => simp
  | cons u t ih =>
    rw [List.flatMap_cons, List.length_append, List.length_map, List.length_cons, Nat.succ_mul]
    have := List.length_filter_le (f u) (List.range n)
    rw [List.length_range] at this
    omega
theorem rows_len : ∀ t, (rows n ps a t).length ≤ n ^ t
  | 0 => Nat.le_refl _
  | t + 1 => by
    have h1 := grow_len (n := n) (rows n ps a t) (sOk ps)
    have h2 := Nat.mul_le_mul_right n (rows_len t)
    exact Nat.le_trans h1 (by rw [Nat.pow_succ]; exact h2)
theorem rim_len (t : Nat) : (rim n ps a t).1.length ≤ n ^ t := by
  rw [(rim_is t).1]
  exact Nat.le_trans (List.length_filter_le _ _) (rows_len t)
/-- order -/
theorem snoc_lt {u v : List Nat} (hl : u.length = v.length) {x y : Nat} (h : u < v ∨ (u = v ∧ x < y)) : u ++ [x] < v ++ [y] := by
  induction u generalizing v with
  | nil =>
    cases v with
    | nil =>
      rcases h with h | ⟨_, h⟩
      · exact absurd h (by simp)
      · show [x] < [y]
        rw [List.cons_lt_cons_iff]
        exact .inl h
    | cons b v => simp at hl
  | cons c u ih =>
    cases v with
    | nil => simp at hl
    | cons d v =>
      rw [List.cons_append, List.cons_append, List.cons_lt_cons_iff]
      rcases h with h | ⟨h, h2⟩
      · rw [List.cons_lt_cons_iff] at h
        rcases h with h | ⟨h1, h2⟩
        · exact .inl h
        · exact .inr ⟨h1, ih (by simpa using hl) (.inl h2)⟩
      · simp only [List.cons.injEq] at h
        exact .inr ⟨h.1, ih (by simpa using hl) (.inr ⟨h.2, h2⟩)⟩
theorem grow_asc {ws : List (List Nat)} {k : Nat} (f : List Nat → Nat → Bool) (hl : ∀ u ∈ ws, u.length = k) (h : ws.Pairwise (· < ·)) : (ws.flatMap fun u => ((List.range n).filter (f u)).map fun a => u ++ [a]).Pairwise (· < ·) := by
  induction ws with
  | nil => exact List.Pairwise.nil
  | cons u t ih =>
    obtain ⟨h1, h2⟩ := List.pairwise_cons.mp h
    rw [List.flatMap_cons, List.pairwise_append]
    refine ⟨?_, ih (fun v hv => hl v (List.mem_cons_of_mem _ hv)) h2, ?_⟩
    · rw [List.pairwise_map]
      exact (List.pairwise_lt_range.filter _).imp fun h => snoc_lt rfl (.inr ⟨rfl, h⟩)
    · intro x hx y hy
      obtain ⟨p, _, rfl⟩ := List.mem_map.mp hx
      obtain ⟨v, hv, hy⟩ := List.mem_flatMap.mp hy
      obtain ⟨q, _, rfl⟩ := List.mem_map.mp hy
      exact snoc_lt (by rw [hl u List.mem_cons_self, hl v (List.mem_cons_of_mem _ hv)]) (.inl (h1 v hv))
theorem rows_asc (ha : a < n) : ∀ t, (rows n ps a t).Pairwise (· < ·)
  | 0 => List.pairwise_singleton _ _
  | t + 1 => grow_asc _ (fun u hu => (rows_nodup ha t u hu).1) (rows_asc ha t)
end
end Kw

namespace Kw
open PySem PySem.Spec PyProof.Rows L2 Evl

/-! ### dicts whose keys are single signs -/
def kS (a : Nat) : Key := .inr (sg a)
theorem kS_inj {a b : Nat} (h : kS a = kS b) : a = b := by
  have h := wS_inj (u := [a]) (v := [b]) (Sum.inr.inj h)
  simpa using h
def insL (ls : List Nat) (x : Nat) : List Nat := if x ∈ ls then ls else ls ++ [x]
def DK (kvs : List (Key × V)) (ls : List Nat) : Prop := kvs.map (·.1) = ls.map kS ∧ ls.Nodup
theorem DK.len {kvs : List (Key × V)} {ls : List Nat} (h : DK kvs ls) : kvs.length = ls.length := by
  have := congrArg List.length h.1
  simpa using this
theorem DK.mem {kvs : List (Key × V)} {ls : List Nat} (h : DK kvs ls) {x : Nat} : kS x ∈ kvs.map (·.1) ↔ x ∈ ls := by
  rw [h.1, List.mem_map]
  exact ⟨fun ⟨y, h1, h2⟩ => kS_inj h2 ▸ h1, fun h => ⟨x, h, rfl⟩⟩
theorem valV_isSome {kvs : List (Key × V)} {k : Key} : (valV kvs k).isSome = true ↔ k ∈ kvs.map fun p => p.1 := by
  unfold valV
  rw [Option.isSome_map]
  cases h : kvs.find? fun kv => decide (kv.1 = k) with
  | none =>
    refine ⟨fun z => (by cases z), fun hm => ?_⟩
    obtain ⟨p, hp, e⟩ := List.mem_map.mp hm
    have := List.find?_eq_none.mp h p hp
    exact absurd (decide_eq_true e) this
  | some p =>
    refine ⟨fun _ => ?_, fun _ => rfl⟩
    have h1 := List.find?_some h
    exact List.mem_map.mpr ⟨p, List.mem_of_find?_eq_some h, of_decide_eq_true h1⟩
theorem DK.val {kvs : List (Key × V)} {ls : List Nat} (h : DK kvs ls) (x : Nat) : (valV kvs (kS x)).isSome = decide (x ∈ ls) := by
  rw [Bool.eq_iff_iff, valV_isSome, decide_eq_true_iff]
  exact h.mem
theorem insL_nodup {ls : List Nat} (h : ls.Nodup) (x : Nat) : (insL ls x).Nodup := by
  unfold insL
  split
  · exact h
  · rw [List.nodup_append]
    exact ⟨h, by simp, fun y hy z hz e => by
      obtain rfl : z = x := by simpa using hz
      exact absurd (e ▸ hy) (by assumption)⟩
theorem mem_insL {ls : List Nat} {x y : Nat} : y ∈ insL ls x ↔ y ∈ ls ∨ y = x := by
  unfold insL
  split
  · rename_i h
    exact ⟨.inl, fun h2 => by rcases h2 with h2 | rfl <;> assumption⟩
  · rw [List.mem_append, List.mem_singleton]
theorem putK_DK {kvs : List (Key × V)} {ls : List Nat} (h : DK kvs ls) (x : Nat) (v : V) : DK (putK kvs (kS x) v) (insL ls x) := by
  have hany : (kvs.any fun kv => decide (kv.1 = kS x)) = decide (x ∈ ls) := by
    rw [Bool.eq_iff_iff, List.any_eq_true, decide_eq_true_iff, ← h.mem]
    refine ⟨fun ⟨p, hp, e⟩ => List.mem_map.mpr ⟨p, hp, of_decide_eq_true e⟩, fun hm => ?_⟩
    obtain ⟨p, hp, e⟩ := List.mem_map.mp hm
    exact ⟨p, hp, decide_eq_true e⟩
  refine ⟨?_, insL_nodup h.2 x⟩
  unfold putK insL
  rw [hany]
  by_cases hx : x ∈ ls
  · rw [if_pos (decide_eq_true hx), if_pos hx, List.map_map, ← h.1]
    refine List.map_congr_left fun p _ => ?_
    show (if p.1 = kS x then (p.1, v) else p).1 = p.1
    split <;> rfl
  · rw [if_neg (by simpa using hx), if_neg hx, List.map_append, List.map_append, h.1]
    rfl
theorem mergeK_DK {more : List (Key × V)} : ∀ {kvs : List (Key × V)} {ls ms : List Nat}, DK kvs ls → more.map (·.1) = ms.map kS → DK (mergeK kvs more) (ms.foldl insL ls) := by
  induction more with
  | nil =>
    intro kvs ls ms h e
    cases ms with
    | nil => exact h
    | cons m ms => simp at e
  | cons p t ih =>
    intro kvs ls ms h e
    cases ms with
    | nil => simp at e
    | cons m ms =>
      simp only [List.map_cons, List.cons.injEq] at e
      have h1 := putK_DK h m p.2
      have := ih h1 e.2
      show DK (mergeK (putK kvs p.1 p.2) t) (ms.foldl insL (insL ls m))
      rw [e.1]
      exact this
theorem mem_foldl_insL {ms : List Nat} : ∀ {ls : List Nat} {x : Nat}, x ∈ ms.foldl insL ls ↔ x ∈ ls ∨ x ∈ ms := by
  induction ms with
  | nil => intro ls x; simp
  | cons m ms ih =>
    intro ls x
    rw [List.foldl_cons, ih, mem_insL, List.mem_cons]
    constructor
    · rintro ((h | h) | h)
      · exact .inl h
      · exact .inr (.inl h)
      · exact .inr (.inr h)
    · rintro (h | h | h)
      · exact .inl (.inl h)
      · exact .inl (.inr h)
      · exact .inr h
theorem foldl_nodup {ms : List Nat} : ∀ {ls : List Nat}, ls.Nodup → (ms.foldl insL ls).Nodup := by
  induction ms with
  | nil => intro ls h; exact h
  | cons m ms ih => intro ls h; exact ih (insL_nodup h m)
section
variable {K : PySem.W.Frag} {σ : L2.St} {H H' : Hp} {ta tb tc te td tk tv : TE} {D : Ends} {tz : TS}
/-- a new dict of such keys -/
def EvD (te : TE) (σ : L2.St) (H : Hp) (ls : List Nat) : Prop := ∀ H1, Ex H H1 → ∀ Q : VK, (∀ p H2 kvs, H1 p = none → Ex H1 H2 → H2 p = some (.dK kvs) → DK kvs ls → Q (.ref p) H2) → te σ H1 Q
theorem ed_dc {α : Type} {wi : TI} {j : Nat} {vs : List Nat} (as : List α) (item : α → V) (f : α → Nat) (z : α → V) (hi : EvI K wi σ H (as.map item)) (hz : ∀ a ∈ as, f a < 8) (hw : ∀ x, wipe ((wipe σ vs).set j (some x)) vs = wipe σ vs)
    (hk : ∀ a ∈ as, ∀ H1, Ex H H1 → Ev tk ((wipe σ vs).set j (some (item a))) H1 (.str (sg (f a)))) (hv : ∀ a ∈ as, ∀ H1, Ex H H1 → Ev tv ((wipe σ vs).set j (some (item a))) H1 (z a)) :
    EvD (tDc wi (gName j) tYes tk tv vs) σ H ((as.map f).foldl insL []) := fun H0 e Q q => hi H0 e _ fun J H1 e1 ⟨G, W, hG⟩ L hL => by
  have gen : ∃ W : Nat → Nat → Hp → Prop, (∃ m, W 0 m (upd H1 L (.dK []))) ∧ ∀ i m H, W i m H → (J.stop i H ∧ Q (.ref L) H) ∨ (J.go i H ∧ ∃ Nx : Hp → Prop, (∀ H', Nx H' → ∃ m', m' < m ∧ W (i + 1) m' H') ∧ ∀ x H', J.yld i H x H' → gName j x (wipe σ vs) H' fun σ2 H2 => wipe σ2 vs = wipe σ vs ∧ tYes σ2 H2 fun b H3 =>
      if b = true then tk σ2 H3 fun y H4 => tv σ2 H4 fun z H5 => ∃ kvs k, y = kV k ∧ H5 L = some (.dK kvs) ∧ kvs.length < sizeLine ∧ Nx (upd H5 L (.dK (putK kvs k z))) else Nx H3) := by
    refine ⟨fun i m H' => m = (as.map item).length - i ∧ i ≤ (as.map item).length ∧ Ex H1 H' ∧ ∃ kvs, H' L = some (.dK kvs) ∧ DK kvs (((as.take i).map f).foldl insL []), ⟨_, rfl, Nat.zero_le _, Ex.new hL, [], upd_same, rfl, List.nodup_nil⟩, ?_⟩
    rintro i m H' ⟨rfl, hi', ee, kvs, hl, hd⟩
    have hg := hG H' ee
    by_cases hlt : i < (as.map item).length
    · refine .inr ⟨W.goes i H' hlt hg, fun H' => i + 1 ≤ (as.map item).length ∧ Ex H1 H' ∧ ∃ kvs, H' L = some (.dK kvs) ∧ DK kvs (((as.take (i + 1)).map f).foldl insL []), fun H' p => ⟨(as.map item).length - (i + 1), by omega, rfl, p⟩, ?_⟩
      intro x H'' y
      obtain ⟨rfl, hx⟩ := W.yields i H' x H'' hlt hg y
      rw [List.length_map] at hlt
      rw [List.getElem?_map, List.getElem?_eq_getElem hlt] at hx
      obtain rfl : item as[i] = x := by simpa using hx
      have hm : as[i] ∈ as := List.getElem_mem hlt
      have hs := take_snoc (List.getElem?_eq_getElem hlt)
      refine ⟨hw _, ?_⟩
      show tk _ _ _
      refine hk _ hm H'' ((e.trans e1).trans ee) H'' (Ex.refl _) _ fun H4 e4 => hv _ hm H4 (((e.trans e1).trans ee).trans e4) H4 (Ex.refl _) _ fun H5 e5 => ⟨kvs, kS (f as[i]), rfl, (e4.trans e5) _ _ hl, ?_, by rw [List.length_map]; omega, Ex.mut ((ee.trans e4).trans e5) hL, _, upd_same, ?_⟩
      · rw [hd.len]
        have := nodup_len 8 _ hd.2 fun x hx => by
          rw [mem_foldl_insL] at hx
          rcases hx with hx | hx
          · cases hx
          · obtain ⟨a, ha, rfl⟩ := List.mem_map.mp hx
            exact hz a (List.mem_of_mem_take ha)
        exact Nat.lt_of_le_of_lt this (by decide)
      · rw [hs, List.map_append, List.foldl_append]
        exact putK_DK hd _ _
    · have e0 : i = (as.map item).length := by omega
      subst e0
      refine .inl ⟨W.stops H' hg, ?_⟩
      rw [List.length_map, List.take_length] at hd
      exact q L H' kvs (fresh_back e1 hL) (e1.trans ee) hl hd
  exact gen
theorem ev_last {u : List Nat} (h : Ev te σ H (.str (wS u))) (hu : u ≠ []) (hz : u.length ≤ sizeLine) : Ev (tOp rIxS te (tUn (rU fun i => .int (-i)) (tC (.int 1)))) σ H (.str (sg (lastN u))) :=
  ev_op h (ev_un ev_c ru_neg) fun H1 e Q q => ⟨wS u, -1, 97 + lastN u, rfl, rfl, by rw [wS_len]; exact hz, by
    rw [wS_list]
    have hl : 0 < u.length := List.length_pos_iff.mpr hu
    unfold atI ixN
    rw [if_neg (by decide), List.length_map, if_pos (by omega)]
    show (u.map (97 + ·))[((-1 : Int) + (u.length : Int)).toNat]? = _
    rw [show ((-1 : Int) + (u.length : Int)).toNat = u.length - 1 by omega, List.getElem?_map, List.getElem?_eq_getElem (by omega)]
    show some (97 + u[u.length - 1]) = some (97 + lastN u)
    unfold lastN
    rw [List.getLastD_eq_getLast?, List.getLast?_eq_getElem?, List.getElem?_eq_getElem (by omega)]
    rfl, q H1 (Ex.refl _)⟩
theorem ev_catS {u v : List Nat} (ha : Ev ta σ H (.str (wS u))) (hb : Ev tb σ H (.str (wS v))) (hz : u.length + v.length ≤ sizeLine) : Ev (tOp (fun x y H Q => ∃ i j, x = .str i ∧ y = .str j ∧ i.length + j.length ≤ sizeLine ∧ Q (.str (i ++ j)) H) ta tb) σ H (.str (wS (u ++ v))) :=
  ev_op ha hb fun H1 e Q q => ⟨wS u, wS v, rfl, rfl, by rw [wS_len, wS_len]; exact hz, by rw [wS_app]; exact q H1 (Ex.refl _)⟩
theorem s_appZ {l : Addr} {xs : List V} {v : V} (hl : H l = some (.lst xs)) (ha : Ev ta σ H (.ref l)) (h : Ev te σ H v) (hz : xs.length < sizeLine) (k : ∀ H1, Ex H H1 → D.nx σ (upd H1 l (.lst (xs ++ [v])))) :
    tDrop (tBM K "list" rAppend ta (tCons te tNil)) D σ H := ha H (Ex.refl H) _ fun H1 e1 =>
  ⟨Or.inl ⟨rfl, xs, sq_of (e1 l _ hl)⟩, h H1 e1 _ fun H2 e2 => ⟨l, xs, v, rfl, rfl, e2 l _ (e1 l _ hl), hz, k H2 (e1.trans e2)⟩⟩
abbrev vW (ws : List (List Nat)) : List V := ws.map fun u => .str (wS u)
theorem dp_words {H : Hp} (ws : List (List Nat)) : DpAll K H (vW ws) (ws.map fun u => PyData.str (wS u)) := by
  induction ws with
  | nil => exact .nil
  | cons u t ih => exact .cons (.str _) ih
theorem strs_depth : ∀ ws : List (List Nat), PyData.depthAll (ws.map fun u => PyData.str (wS u)) ≤ 2
  | [] => by simp [PyData.depthAll]
  | u :: t => by
    have h1 := strs_depth t
    simp only [List.map_cons, PyData.depthAll, PyData.depth]
    omega
abbrev WOk (ws : List (List Nat)) : Prop := ∀ u ∈ ws, ∀ x ∈ u, x < 8
theorem strOk_wS {u : List Nat} (h : ∀ x ∈ u, x < 8) : PyData.strOk (wS u) = true := by
  show (u.map (97 + ·)).toArray.all (fun c => decide (c < 0x110000)) = true
  rw [List.all_toArray, List.all_map, List.all_eq_true]
  intro x hx
  have := h x hx
  exact decide_eq_true (show 97 + x < 0x110000 by omega)
theorem strs_lay : ∀ ws : List (List Nat), WOk ws → PyData.canLayAll0 (ws.map fun u => PyData.str (wS u)) = true
  | [], _ => by simp [PyData.canLayAll0]
  | u :: t, h => by
    have h1 := strs_lay t fun v hv => h v (List.mem_cons_of_mem _ hv)
    have h2 := strOk_wS (h u List.mem_cons_self)
    simp only [List.map_cons, PyData.canLayAll0, PyData.canLay0, h1, h2]
    rfl
theorem strs_shaped (ws : List (List Nat)) (h : WOk ws) : SeqAt.shaped (.list (ws.map fun u => PyData.str (wS u))) = true := by
  have h1 := strs_depth ws
  have h2 : PyData.depth (.list (ws.map fun u => PyData.str (wS u))) ≤ 64 := by
    simp only [PyData.depth]
    omega
  show (PyData.canLay0 (.list (ws.map fun u => PyData.str (wS u))) && decide (PyData.depth (.list (ws.map fun u => PyData.str (wS u))) ≤ 64)) = true
  rw [Bool.and_eq_true]
  exact ⟨by simp only [PyData.canLay0]; exact strs_lay ws h, decide_eq_true h2⟩
/-- rim != [] -/
theorem et_neNil {a : Addr} {ws : List (List Nat)} (h : Ev ta σ H (.ref a)) (ha : H a = some (.lst (vW ws))) (hn : EvL tb σ H []) (ok : WOk ws) : EvT (tTest (tOp (rNeD K) ta tb)) σ H (!ws.isEmpty) :=
  et_test (ev_opL h hn fun p H1 hp e1 H2 e2 Q q => ⟨.list (ws.map fun u => PyData.str (wS u)), .list [], .lst (sq_of ((e1.trans e2) _ _ ha)) (dp_words ws), .lst (sq_of (e2 _ _ hp)) .nil, strs_shaped ws ok, strs_shaped [] (fun _ h => by cases h), by
    have : PyData.eqv (.list (ws.map fun u => PyData.str (wS u))) (.list []) = ws.isEmpty := by
      cases ws with
      | nil => simp [PyData.eqv, PyData.eqvAll]
      | cons u t => simp [PyData.eqv, PyData.eqvAll]
    rw [this]
    exact q H2 (Ex.refl _)⟩)
theorem sg_eqV {a b : Nat} : decide (V.str (sg a) = V.str (sg b)) = decide (a = b) := decide_eq_decide.mpr ⟨fun h => by
  have h := wS_inj (u := [a]) (v := [b]) (V.str.inj h)
  simpa using h, fun h => by rw [h]⟩
end
end Kw

namespace Kw
open PySem PySem.Spec PyProof.Rows L2 Evl

def vG : Option (List Nat) → V
  | some u => .str (wS u)
  | none => .non
def spShort : Sp := fun vs H Q _ => ∃ (c : Addr) (n : Nat) (ps : List (Nat × Nat)) (a b : Nat), vs = [.ref c, .str (sg a), .str (sg b)] ∧ Co n ps ∧ CoAt H c n ps ∧ a < n ∧ b < n ∧ RetV (vG (goalAt n ps a b n)) H Q
theorem rgrow_take {n : Nat} {ps : List (Nat × Nat)} {seen : List Nat} {ws : List (List Nat)} {i : Nat} {u : List Nat} (h : ws[i]? = some u) : rgrow n ps seen (ws.take (i + 1)) = rgrow n ps seen (ws.take i) ++ ((List.range n).filter fun a => fr ps (lastN u) a && !seen.contains a).map fun a => u ++ [a] := by
  rw [take_snoc h]
  unfold rgrow
  rw [List.flatMap_append]
  simp
theorem rgrow_len {n : Nat} {ps : List (Nat × Nat)} {seen : List Nat} {ws : List (List Nat)} : (rgrow n ps seen ws).length ≤ ws.length * n := grow_len ws fun u a => fr ps (lastN u) a && !seen.contains a
theorem rim_words {n : Nat} {ps : List (Nat × Nat)} {a t : Nat} (ha : a < n) {u : List Nat} (h : u ∈ (rim n ps a t).1) : u.length = t + 1 ∧ u ≠ [] ∧ (∀ x ∈ u, x < n) ∧ lastN u < n := by
  rw [(rim_is t).1] at h
  obtain ⟨h1, h2, h3⟩ := rows_nodup ha t u (List.mem_filter.mp h).1
  have hne : u ≠ [] := fun z => by rw [z] at h1; simp at h1
  refine ⟨h1, hne, h3, h3 _ ?_⟩
  unfold lastN
  rw [List.getLastD_eq_getLast?, List.getLast?_eq_some_getLast hne]
  exact List.getLast_mem hne
theorem range_snoc {j : Nat} {p : Nat → Bool} {f : Nat → List Nat} : ((List.range (j + 1)).filter p).map f = ((List.range j).filter p).map f ++ if p j then [f j] else [] := by
  rw [List.range_succ, List.filter_append, List.map_append, List.filter_cons]
  cases p j <;> simp
section
variable {P : Program} {w : World} {K : PySem.W.Frag} {mg : Str → Option Value} {base : Heap} {σ : L2.St} {H : Hp}
theorem ev_minW {te : TE} {u : List Nat} {l : List (List Nat)} (h : EvL te σ H (vW (u :: l))) (asc : (u :: l).Pairwise (· < ·)) : Ev (tCB (rMinS K) (tCons te tNil)) σ H (.str (wS u)) := fun H1 e Q q => h H1 e _ fun p H2 _ e2 hp =>
  ⟨p, (u :: l).map wS, rfl, sq_of (by rw [List.map_map]; exact hp), by simp, fun m hm hmin => by
    obtain ⟨v, hv, rfl⟩ := List.mem_map.mp hm
    rcases List.mem_cons.mp hv with rfl | hv
    · exact q H2 e2
    · have := (List.pairwise_cons.mp asc).1 v hv
      refine absurd ?_ (hmin (wS u) (List.mem_map.mpr ⟨u, List.mem_cons_self, rfl⟩))
      rw [wS_list, wS_list]
      exact lex_map.mpr this⟩
theorem ev_dnotin {tk td : TE} {x : Nat} {d : Addr} {kvs : List (Key × V)} {ls : List Nat} (hk : Ev tk σ H (.str (sg x))) (ho : Ev td σ H (.ref d)) (hd : H d = some (.dK kvs)) (dk : DK kvs ls) : Ev (tDNotIn tk td) σ H (.bl (!decide (x ∈ ls))) := fun H1 e Q q => hk H1 e _ fun H2 e2 => ho H2 (e.trans e2) _ fun H3 e3 =>
  ⟨d, valV kvs (kS x), rfl, DGet.k (k := kS x) (((e.trans e2).trans e3) _ _ hd), by rw [dk.val]; exact q H3 (e2.trans e3)⟩
theorem q_update {D : Ends} {tz : TS} {to te : TE} {d : Addr} {kvs : List (Key × V)} {ms : List Nat} (ho : Ev to σ H (.ref d)) (hd : H d = some (.dK kvs)) (h : EvD te σ H ms) (hz : kvs.length + ms.length ≤ sizeLine) (k : ∀ H1 more, Ex H H1 → more.map (·.1) = ms.map kS → tz D σ (upd H1 d (.dK (mergeK kvs more)))) :
    tSeq (tDrop (tBM K "dict" rUpdate to (tCons te tNil))) tz D σ H := ho H (Ex.refl H) _ fun H1 e1 => ⟨.inr (.inr (.inl ⟨rfl, .inl ⟨kvs, e1 _ _ hd⟩⟩)), h H1 e1 _ fun o H2 more ho e2 h2 dk => ⟨d, o, kvs, more, rfl, rfl, fun z => (by rw [← z, e1 _ _ hd] at ho; cases ho), (e1.trans e2) _ _ hd, .inl h2, by rw [dk.len]; exact hz, k H2 more (e1.trans e2) dk.1⟩⟩
theorem q_par3D {D : Ends} {tz : TS} {ta tb tk tv : TE} {i j l x : Nat} {xs ys : List V} {v : V} (ha : EvL ta σ H xs) (hb : EvL tb σ H ys) (hk : Ev tk σ H (.str (sg x))) (hv : Ev tv σ H v)
    (k : ∀ p q r B H1, H p = none → Ex H B → B p = some (.lst xs) → Ex B H1 → B r = none → H1 q = some (.lst ys) → H1 r = some (.dK [(kS x, v)]) → tz D (((σ.set i (some (.ref p))).set j (some (.ref q))).set l (some (.ref r))) H1) :
    tSeq (tPar3 i j l (tCons ta (tCons tb (tCons (tDisp [(tk, tv)]) tNil)))) tz D σ H := ha H (Ex.refl H) _ fun p H1 hp e1 h1 => hb H1 e1 _ fun q H2 hq e2 h2 => fun r hr => by
  have e3 : Ex H2 (upd H2 r (.dK [])) := Ex.new hr
  refine hk _ ((e1.trans e2).trans e3) _ fun H3 e4 => hv _ (((e1.trans e2).trans e3).trans e4) _ fun H4 e5 => ?_
  refine ⟨e5 _ _ (e4 _ _ upd_same), [(kS x, v)], rfl, (show 1 ≤ 15 by decide), .ref p, .ref q, .ref r, rfl, ?_⟩
  have hrB : H1 r = none := fresh_back e2 hr
  exact k p q r H1 _ hp e1 h1 (Ex.mut (((e2.trans e3).trans e4).trans e5) hrB) hrB (by rw [upd_ne (fun z => by rw [z, hr] at h2; cases h2)]; exact e5 _ _ (e4 _ _ (e3 _ _ h2))) upd_same
theorem ok_shortest_walk {f fC  fL  fF : Addr} {fd fdC  fdL  fdF : FuncData} (D : Df K mg "shortest_walk" s_shortest_walk ["company", "one", "other"] f fd) (B : Bt mg)
    (DC : Df K mg "need_company" s_need_company ["company"] fC fdC) (GC : FnOk P w K mg base CX0 3 fC fdC ["company"] spNeedCo)
    (DL : Df K mg "need_letter" s_need_letter ["company", "letter"] fL fdL) (GL : FnOk P w K mg base CX0 2 fL fdL ["company", "letter"] spNeedLetter)
    (DF : Df K mg "friends_of_all" s_friends_of_all ["company"] fF fdF) (GF : FnOk P w K mg base CX0 1 fF fdF ["company"] spFriends) : FnOk P w K mg base CX0 4 f fd ["company", "one", "other"] spShort := by
  refine D.F.ok sc_shortest_walk (fun vs H Q E h => ?_) (fun cdv A outer s H vs Q E hr h => ?_)
  · obtain ⟨c, n, ps, a, b, rfl, _⟩ := h
    rfl
  · obtain ⟨c, n, ps, a, b, rfl, co, hc, ha, hb, k⟩ := h
    have nd := sc_shortest_walk.nd
    refine ⟨_, (pss_cons (ps_expr (pcall DC GC hr (pa_cons (pv 0) pa_nil)))
      (pss_cons (ps_expr (pcall DL GL (hr.mono (by decide)) (pa_cons (pv 0) (pa_cons (pv 1) pa_nil))))
      (pss_cons (ps_expr (pcall DL GL (hr.mono (by decide)) (pa_cons (pv 0) (pa_cons (pv 2) pa_nil))))
      (pss_cons (ps_par3 (i := 3) (j := 4) (l := 5) rfl nd rfl rfl rfl (by decide) (by decide) (by decide) rfl rfl rfl (pa_cons (pcall DF GF (hr.mono (by decide)) (pa_cons (pv 0) pa_nil)) (pa_cons (pe_lst (pa_cons (pv 1) pa_nil)) (pa_cons (pe_disp (pps_cons (pv 1) pe_bl pps_nil) (by rfl) (by rfl) (fun z => by cases z) (by decide)) pa_nil))) (by rfl))
      (pss_cons (ps_while PassesOwn.never (pt_cmpR (op_neD hr.units) (pv 4) (pe_lst pa_nil) (nomark _)) (pss_cons (ps_if (pt_val (pe_callB (cr_any rfl) (by rfl) B.any (by decide +kernel) (pa_cons (pe_lc (own := [("word", 6)]) (tt := tYes) rfl nd (pi_list (pv 4)) (blkOk_by (N := ["company", "one", "other", "told", "rim", "seen", "word", "later", "at", "sign"]) (sc := (defScope s_shortest_walk)) (by decide +kernel)) (fun _ _ _ _ _ => (pg_name (i := 6) nd rfl (Or.inl rfl))) (fun _ _ _ _ _ => pts_nil)
        (fun _ _ _ _ _ => (pe_cmpR op_eq (pe_ix (r := rIxS) ix_str (pv 6) (pe_un un_neg pe_int) (fun _ _ => rfl)) (pv 2) (nomark _)))) pa_nil))) (pss_one (ps_ret (pe_callB (cr_minS rfl) (by rfl) B.min (by decide +kernel) (pa_cons (pe_lc (own := [("word", 6)]) (tt := _) rfl nd (pi_list (pv 4)) (blkOk_by (N := ["company", "one", "other", "told", "rim", "seen", "word", "later", "at", "sign"]) (sc := (defScope s_shortest_walk)) (by decide +kernel)) (fun _ _ _ _ _ => (pg_name (i := 6) nd rfl (Or.inl rfl))) (fun _ _ _ _ _ => pts_one (pt_cmpR op_eq (pe_ix (r := rIxS) ix_str (pv 6) (pe_un un_neg pe_int) (fun _ _ => rfl)) (pv 2) (nomark _)))
        (fun _ _ _ _ _ => (pv 6))) pa_nil)))) pss_nil)
      (pss_cons (ps_set (i := 7) nd rfl (Or.inl rfl) (pe_lst pa_nil))
      (pss_cons (ps_for PassesOwn.never rfl (pi_list (pv 4)) (pg_name (i := 6) nd rfl (Or.inl rfl)) (pss_one (ps_for PassesOwn.never rfl (pi_range1 rfl B.range (pa_cons (pe_ix ix_tup (pv 0) pe_int (fun _ _ => rfl)) pa_nil)) (pg_name (i := 8) nd rfl (Or.inl rfl)) (pss_cons (ps_set (i := 9) nd rfl (Or.inl rfl) (pe_ix ix_str (pg_alpha B rfl) (pv 8) (fun _ _ => rfl)))
      (pss_one (ps_if (PW.pt (pw_and (pt_cmpR op_eq (pe_op op_and (pe_op op_shr (pe_ix ix_list (pv 3) (pe_bm PySem.F.plainAttrs_str PySem.F.slot_str_index PySem.F.type_str_index mt_index1 (pg_alpha B rfl) (pa_cons (pe_ix (r := rIxS) ix_str (pv 6) (pe_un un_neg pe_int) (fun _ _ => rfl)) pa_nil)) (fun _ _ => rfl)) (pv 8)) pe_int) pe_int (nomark _)) (pw_and1 (pt_cmp (pc_dnotin (hu_of hr) (pv 9) (pv 5)))))) (pss_one (ps_expr (pe_bm PySem.F.plainAttrs_list PySem.F.slot_list_append PySem.F.type_list_append mt_append (pv 7) (pa_cons (pe_op op_add_str (pv 6) (pv 9)) pa_nil)))) pss_nil))))))
      (pss_cons (ps_expr (pe_bm PySem.F.plainAttrs_dict PySem.F.slot_dict_update PySem.F.type_dict_update mt_update (pv 5) (pa_cons (pe_dc (own := [("word", 6)]) (g := gName 6) (tt := tYes) rfl nd (pi_list (pv 7)) (blkOk_by (N := ["company", "one", "other", "told", "rim", "seen", "word", "later", "at", "sign"]) (sc := (defScope s_shortest_walk)) (by decide +kernel)) (fun _ _ _ _ _ => (pg_name (i := 6) nd rfl (Or.inl rfl))) (fun _ _ _ _ _ => pts_nil) (fun _ _ _ _ _ => (pe_ix (r := rIxS) ix_str (pv 6) (pe_un un_neg pe_int) (fun _ _ => rfl))) (fun _ _ _ _ _ => pe_bl)) pa_nil)))
      (pss_one (ps_set (i := 4) nd rfl (Or.inl rfl) (pv 7))))))))
      (pss_one (ps_ret pe_non))))))), ?_⟩
    have h8 := co.hi
    have h2 := co.lo
    refine q_drop (ev_needCo (ea_cons (ev_var rfl) ea_nil) co hc) fun H1 e1 => ?_
    refine q_drop (ev_call (vs := [.ref c, .str (sg a)]) (z := .non) (ea_cons (ev_var rfl) (ea_cons (ev_var rfl) ea_nil)) fun H2 e2 Q' q' E' => ⟨c, n, ps, a, rfl, co, hc.mono (tu_ex (e1.trans e2)), ha, q'⟩) fun H2 e2 => ?_
    refine q_drop (ev_call (vs := [.ref c, .str (sg b)]) (z := .non) (ea_cons (ev_var rfl) (ea_cons (ev_var rfl) ea_nil)) fun H3 e3 Q' q' E' => ⟨c, n, ps, b, rfl, co, hc.mono (tu_ex ((e1.trans e2).trans e3)), hb, q'⟩) fun H3 e3 => ?_
    have e03 := (e1.trans e2).trans e3
    refine q_par3D (x := a) (el_call (vs := [.ref c]) (ea_cons (ev_var rfl) ea_nil) fun H4 e4 Q' q' E' => ⟨c, n, ps, rfl, co, hc.mono (tu_ex (e03.trans e4)), fun p H2 hp e2 h2 => q' p H2 hp e2 h2⟩) (el_lst (ea_cons (ev_var rfl) ea_nil) (show 1 ≤ 100000 by decide)) (ev_var rfl) ev_c fun tl r0 sd B H4 htl eB hBt eB4 hBs hr0 hs0 => ?_
    have exB : Ex H B := e03.trans eB
    have hsz : (8 : Nat) ^ 8 = sizeLine := by decide
    clear htl
    refine q_while (fun m σ' H' => ∃ t r kvs ls x6 x7 x8 x9, m + t = n ∧ σ' = [some (.ref c), some (.str (sg a)), some (.str (sg b)), some (.ref tl), some (.ref r), some (.ref sd), x6, x7, x8, x9] ∧ Ex B H' ∧ H' r = some (.lst (vW (rim n ps a t).1)) ∧ H' sd = some (.dK kvs) ∧ DK kvs ls ∧ (∀ x ∈ ls, x < 8) ∧ (∀ x, x ∈ ls ↔ x ∈ (rim n ps a (t + 1)).2) ∧ b ∉ (rim n ps a t).2) n ?_ ?_
    · refine ⟨0, r0, _, [a], _, _, _, _, rfl, rfl, eB4, hr0, hs0, ⟨rfl, by simp⟩, fun x hx => ?_, fun x => ?_, fun h => by cases h⟩
      · obtain rfl : x = a := by simpa using hx
        omega
      · show x ∈ [a] ↔ x ∈ [] ++ [[a]].map lastN
        rfl
    · rintro m σ' H5 ⟨t, r, kvs, ls, x6, x7, x8, x9, hmt, rfl, exB5, hr5, hs5, dk, ls8, lsx, hbn⟩
      have wok : WOk (rim n ps a t).1 := fun u hu x hx => Nat.lt_of_lt_of_le ((rim_words ha hu).2.2.1 x hx) h8
      have hpow : t ≤ 7 → n ^ t * n ≤ sizeLine := fun h7 => by
        have h1 : n ^ t ≤ 8 ^ 7 := Nat.le_trans (Nat.pow_le_pow_left h8 _) (Nat.pow_le_pow_right (by decide) h7)
        have h2 := Nat.mul_le_mul h1 h8
        rw [← hsz]
        exact h2
      have hlen := rim_len (n := n) (ps := ps) (a := a) t
      refine ⟨!(rim n ps a t).1.isEmpty, et_neNil (ev_var rfl) hr5 (el_lst ea_nil (by decide)) wok, fun hne H6 e6 => ?_, fun hem H6 e6 => ?_⟩
      · have htn : t < n := by
          rcases Nat.lt_or_ge t n with h | h
          · exact h
          · obtain rfl : t = n := by omega
            rw [rim_nil ha] at hne
            cases hne
        have h7 : t ≤ 7 := by omega
        have hp := hpow h7
        have hl1 : (rim n ps a t).1.length * n ≤ sizeLine := Nat.le_trans (Nat.mul_le_mul_right n hlen) hp
        have hl0 : (rim n ps a t).1.length ≤ sizeLine := Nat.le_trans (Nat.le_mul_of_pos_right _ (by omega)) hl1
        have hw9 : ∀ u ∈ (rim n ps a t).1, u.length ≤ 100 := fun u hu => by have := (rim_words ha hu).1; omega
        have hlast : ∀ (σ : L2.St) (H : Hp) (u : List Nat), u ∈ (rim n ps a t).1 → σ[6]? = some (some (.str (wS u))) → Ev (tOp rIxS (tVar 6) (tUn (rU fun i => .int (-i)) (tC (.int 1)))) σ H (.str (sg (lastN u))) := fun σ H u hu hs => ev_last (ev_var hs) (rim_words ha hu).2.1 (Nat.le_trans (hw9 u hu) (by decide))
        refine ⟨fun σ2 H2 => ∃ t r kvs ls x6 x7 x8 x9, (m - 1) + t = n ∧ σ2 = [some (.ref c), some (.str (sg a)), some (.str (sg b)), some (.ref tl), some (.ref r), some (.ref sd), x6, x7, x8, x9] ∧ Ex B H2 ∧ H2 r = some (.lst (vW (rim n ps a t).1)) ∧ H2 sd = some (.dK kvs) ∧ DK kvs ls ∧ (∀ x ∈ ls, x < 8) ∧ (∀ x, x ∈ ls ↔ x ∈ (rim n ps a (t + 1)).2) ∧ b ∉ (rim n ps a t).2, fun σ2 H2 h => ⟨m - 1, by omega, h⟩, ?_⟩
        refine q_when (b := (rim n ps a t).1.any fun u => decide (lastN u = b)) (et_B (ev_is (ev_anyL (bs := (rim n ps a t).1.map fun u => decide (lastN u = b)) ?_) (by rw [List.any_map]; rfl))) (fun hany H7 e7 => ?_) (fun hany H7 e7 => ?_)
        · rw [List.map_map]
          refine el_lcA (K := K) (rim n ps a t).1 (fun u => .str (wS u)) _ (ei_list (ev_var rfl) (sq_of (e6 _ _ hr5))) hl0 (fun _ => rfl) fun u hu H7 e7 => ?_
          exact ev_is (ev_op (hlast _ _ u hu rfl) (ev_var rfl) (rv_eq rfl)) (congrArg V.bl sg_eqV)
        · have hends := rim_ends (n := n) (ps := ps) (a := a) hbn
          cases hE : ends n ps a b t with
          | nil =>
            exfalso
            obtain ⟨u, hu, h⟩ := List.any_eq_true.mp hany
            rw [hE] at hends
            exact List.filter_eq_nil_iff.mp hends u hu h
          | cons u l =>
            have lce : EvL (tLc (iList K (tVar 4)) (gName 6) (tTest (tOp rEq (tOp rIxS (tVar 6) (tUn (rU fun i => .int (-i)) (tC (.int 1)))) (tVar 2))) (tVar 6) [6]) [some (.ref c), some (.str (sg a)), some (.str (sg b)), some (.ref tl), some (.ref r), some (.ref sd), x6, x7, x8, x9] H7 (vW (u :: l)) := by
              have := el_lc (K := K) (H := H7) (tt := tTest (tOp rEq (tOp rIxS (tVar 6) (tUn (rU fun i => .int (-i)) (tC (.int 1)))) (tVar 2))) (te := tVar 6) (j := 6) (vs := [6]) (wi := iList K (tVar 4)) (σ := [some (.ref c), some (.str (sg a)), some (.str (sg b)), some (.ref tl), some (.ref r), some (.ref sd), x6, x7, x8, x9]) (rim n ps a t).1 (fun u => .str (wS u)) (fun u => decide (lastN u = b)) (fun u => .str (wS u)) (ei_list (ev_var rfl) (sq_of ((e6.trans e7) _ _ hr5))) hl0 (fun _ => rfl) (fun u hu H8 e8 => et_is (et_test (ev_op (hlast _ _ u hu rfl) (ev_var rfl) (rv_eq rfl))) sg_eqV) (fun u hu _ H8 e8 => ev_var rfl)
              rw [hends, hE] at this
              exact this
            have asc : (u :: l).Pairwise (· < ·) := by
              rw [← hE]
              exact (rows_asc ha t).filter _
            refine s_ret (ev_minW lce asc) fun H8 e8 => ?_
            have g := goal_first hbn u l hE (by omega)
            rw [g] at k
            exact k H8 ((((exB.trans exB5).trans e6).trans e7).trans e8)
        · have hnoE : (rim n ps a t).1.filter (fun u => decide (lastN u = b)) = [] := by
            refine List.filter_eq_nil_iff.mpr fun u hu h => ?_
            have := List.any_eq_false.mp hany u hu
            exact this h
          have e57 := e6.trans e7
          refine q_asgL (el_lst ea_nil (by decide)) fun L H8 hL e8 hL8 => ?_
          refine q_forLn (a := r) (xs := vW (rim n ps a t).1) (ev_var rfl) (sq_of ((e57.trans e8) _ _ hr5)) (fun i σ' H' => ∃ x6 x8 x9, σ' = [some (.ref c), some (.str (sg a)), some (.str (sg b)), some (.ref tl), some (.ref r), some (.ref sd), x6, some (.ref L), x8, x9] ∧ Ex H7 H' ∧ H' L = some (.lst (vW (rgrow n ps (rim n ps a (t + 1)).2 ((rim n ps a t).1.take i))))) (fun H9 e9 => ⟨_, _, _, rfl, e8.trans e9, e9 _ _ hL8⟩) (fun i σ' H' _ p => by obtain ⟨_, _, _, _, p, _⟩ := p; exact sq_of (p _ _ (e57 _ _ hr5))) ?_ ?_
          · rintro i x σ' H9 hx ⟨y6, y8, y9, rfl, e9, hL9⟩
            have hi : i < (rim n ps a t).1.length := by
              have := (List.getElem?_eq_some_iff.mp hx).1
              rwa [List.length_map] at this
            obtain ⟨u, hu⟩ : ∃ u, (rim n ps a t).1[i]? = some u := ⟨_, List.getElem?_eq_getElem hi⟩
            rw [List.getElem?_map, hu] at hx
            obtain rfl := Option.some.inj hx
            have hum : u ∈ (rim n ps a t).1 := List.mem_of_getElem? hu
            refine s_forR1 (n := (n : Nat)) (ea_cons (ev_co0 (ev_var rfl) (hc.mono (tu_ex (((exB.trans exB5).trans e57).trans e9)))) ea_nil) (by omega) (fun j σ' H' => ∃ x8 x9, σ' = [some (.ref c), some (.str (sg a)), some (.str (sg b)), some (.ref tl), some (.ref r), some (.ref sd), some (.str (wS u)), some (.ref L), x8, x9] ∧ Ex H7 H' ∧ H' L = some (.lst (vW (rgrow n ps (rim n ps a (t + 1)).2 ((rim n ps a t).1.take i) ++ ((List.range j).filter fun a' => fr ps (lastN u) a' && !(rim n ps a (t + 1)).2.contains a').map fun a' => u ++ [a'])))) (fun H10 e10 => ⟨_, _, rfl, e9.trans e10, by simpa using e10 _ _ hL9⟩) ?_ ?_
            · rintro j σ' H10 hj ⟨z8, z9, rfl, e10, hL10⟩
              have hj : j < n := by omega
              refine q_asg (v := .str (sg j)) (ev_wSat (u := List.range 8) (ev_is ev_c (congrArg V.str alpha_is)) (ev_var rfl) (List.getElem?_range (by omega)) (by rw [List.length_range]; decide)) fun H11 e11 => ?_
              have e711 := e10.trans e11
              have hlx := (rim_words ha hum).2.2.2
              refine s_when (b := fr ps (lastN u) j && !(rim n ps a (t + 1)).2.contains j) (et_is (et_and (a := fr ps (lastN u) j) (b := !decide (j ∈ ls)) (et_test (ev_is (ev_op (x := .int ((fm ps (lastN u) / 2 ^ j &&& 1 : Nat) : Int)) (ev_op (ev_op (ev_op (ev_var rfl) (ev_indexS ev_c (hlast _ _ u hum rfl) (by omega)) (rv_ixL (sq_of ((exB5.trans (e57.trans e711)) _ _ hBt)) (atI_nat (vI_at hlx)))) (ev_var rfl) rv_shr) ev_c rv_and1) ev_c (rv_eq rfl)) (congrArg V.bl (bit_is co _ _)))) fun _ => et_B (ev_dnotin (ev_var rfl) (ev_var rfl) ((e57.trans e711) _ _ hs5) dk)) (by rw [List.contains_eq_mem, decide_eq_decide.mpr (lsx j)])) (fun hyes H12 e12 => ?_) (fun hno H12 e12 => ?_)
              · refine s_appZ (v := .str (wS (u ++ [j]))) ((e11.trans e12) _ _ hL10) (ev_var rfl) (ev_catS (u := u) (v := [j]) (ev_var rfl) (ev_var rfl) (by have := hw9 u hum; exact Nat.le_trans (show u.length + 1 ≤ 101 by omega) (by decide))) ?_ fun H13 e13 => ⟨_, _, rfl, Ex.mut ((e711.trans e12).trans e13) hL, ?_⟩
                · rw [List.length_map, List.length_append, List.length_map]
                  have h1 : (rgrow n ps (rim n ps a (t + 1)).2 ((rim n ps a t).1.take i)).length ≤ i * n := by
                    have := rgrow_len (n := n) (ps := ps) (seen := (rim n ps a (t + 1)).2) (ws := (rim n ps a t).1.take i)
                    rwa [List.length_take, Nat.min_eq_left (by omega)] at this
                  have h2 := List.length_filter_le (fun a' => fr ps (lastN u) a' && !(rim n ps a (t + 1)).2.contains a') (List.range j)
                  rw [List.length_range] at h2
                  have h3 := Nat.mul_le_mul_right n (show i + 1 ≤ (rim n ps a t).1.length by omega)
                  rw [Nat.succ_mul] at h3
                  omega
                · rw [upd_same, range_snoc, if_pos hyes, ← List.append_assoc]
                  show _ = some (HO.lst (List.map _ (_ ++ [u ++ [j]])))
                  rw [List.map_append (l₂ := [u ++ [j]])]
                  rfl
              · refine ⟨_, _, rfl, e711.trans e12, ?_⟩
                rw [range_snoc, if_neg (by rw [hno]; decide), List.append_nil]
                exact (e11.trans e12) _ _ hL10
            · rintro σ' H10 ⟨z8, z9, rfl, e10, hL10⟩
              refine ⟨_, _, _, rfl, e10, ?_⟩
              rw [rgrow_take hu]
              exact hL10
          · rintro σ' H9 ⟨y6, y8, y9, rfl, e9, hL9⟩
            rw [List.length_map, List.take_length] at hL9
            have hlen2 : (rgrow n ps (rim n ps a (t + 1)).2 (rim n ps a t).1).length ≤ sizeLine := Nat.le_trans rgrow_len hl1
            have hrim2 : (rim n ps a (t + 1)).1 = rgrow n ps (rim n ps a (t + 1)).2 (rim n ps a t).1 := rfl
            rw [← hrim2] at hL9 hlen2
            have ms8 : ∀ x ∈ (((rim n ps a (t + 1)).1.map lastN).foldl insL []), x < 8 := fun x hx => by
              rw [mem_foldl_insL] at hx
              rcases hx with hx | hx
              · cases hx
              · obtain ⟨u, hu, rfl⟩ := List.mem_map.mp hx
                exact Nat.lt_of_lt_of_le (rim_words ha hu).2.2.2 h8
            have s9 : H9 sd = some (.dK kvs) := e9 _ _ (e57 _ _ hs5)
            have tn : t + 1 ≤ 8 := by omega
            refine q_update (ev_var rfl) s9 (ed_dc (K := K) (rim n ps a (t + 1)).1 (fun u => .str (wS u)) lastN (fun _ => .bl true) (ei_list (ev_var rfl) (sq_of hL9)) (fun u hu => Nat.lt_of_lt_of_le (rim_words ha hu).2.2.2 h8) (fun _ => rfl) (fun u hu H10 e10 => ev_last (ev_var rfl) (rim_words ha hu).2.1 (by have := (rim_words ha hu).1; exact Nat.le_trans (show u.length ≤ 100 by omega) (by decide))) (fun u hu H10 e10 => ev_c)) ?_ fun H10 more e10 hmore => ?_
            · rw [dk.len]
              have h1 := nodup_len 8 ls dk.2 ls8
              have h2 := nodup_len 8 _ (foldl_nodup (ms := (rim n ps a (t + 1)).1.map lastN) List.nodup_nil) ms8
              exact Nat.le_trans (show _ ≤ 16 by omega) (by decide)
            · refine s_asg (v := .ref L) (ev_var rfl) fun H11 e11 => ?_
              have hsL : L ≠ sd := fun z => by rw [z, s9] at hL9; cases hL9
              have hBsd : B sd = none := hBs
              refine ⟨t + 1, L, mergeK kvs more, _, _, _, _, _, by omega, rfl, (Ex.mut ((exB5.trans (e57.trans e9)).trans e10) hBsd).trans e11, e11 _ _ (by rw [upd_ne hsL]; exact e10 _ _ hL9), e11 _ _ upd_same, mergeK_DK dk hmore, fun x hx => ?_, fun x => ?_, rim_next hbn hnoE⟩
              · rw [mem_foldl_insL] at hx
                rcases hx with hx | hx
                · exact ls8 x hx
                · exact ms8 x hx
              · rw [mem_foldl_insL, mem_foldl_insL, lsx]
                show _ ↔ x ∈ (rim n ps a (t + 1)).2 ++ (rim n ps a (t + 1)).1.map lastN
                rw [List.mem_append]
                simp
      · have hnil : (rim n ps a t).1 = [] := by
          rw [Bool.not_eq_false'] at hem
          exact List.isEmpty_iff.mp hem
        refine s_ret (v := .non) ev_c fun H7 e7 => ?_
        rw [goal_last hbn hnil] at k
        exact k H7 (((exB.trans exB5).trans e6).trans e7)
end
end Kw

namespace Kw
open PySem PySem.Spec PyProof.Rows L2 Evl

/-! ### the row that is drawn from -/
def Dr (r : Addr) (H H' : Hp) : Prop := ∀ q o, q ≠ r → H q = some o → H' q = some o
def RowAt (K : PySem.W.Frag) (H : Hp) (r : Addr) : Prop := ∃ (sc : Addr) (ns : List Int) (i b c : Int), H r = some (.lst [.ref sc, .int i, .int b, .int c]) ∧ 0 ≤ i ∧ SqL K H sc (ns.map V.int)
/-- the script stays the same -/
def Sc (r : Addr) (H H' : Hp) : Prop := ∀ sc xs, H r = some (.lst (.ref sc :: xs)) → ∃ xs', H' r = some (.lst (.ref sc :: xs'))
structure Go (K : PySem.W.Frag) (r : Addr) (H H' : Hp) : Prop where
  d1 : Dr r H H'
  d2 : RowAt K H' r
  sc : Sc r H H'
section
variable {K : PySem.W.Frag} {r : Addr} {H H1 H2 H' : Hp} {σ : L2.St}
theorem Dr.trans (a : Dr r H H1) (b : Dr r H1 H2) : Dr r H H2 := fun q o h e => b q o h (a q o h e)
theorem Dr.ex (e : Ex H H1) : Dr r H H1 := fun q o _ h => e q o h
theorem RowAt.ex (h : RowAt K H r) (e : Ex H H1) : RowAt K H1 r := by
  obtain ⟨sc, ns, i, b, c, h1, h2, h3⟩ := h
  exact ⟨sc, ns, i, b, c, e _ _ h1, h2, ex_l e h3⟩
theorem Go.trans (a : Go K r H H1) (b : Go K r H1 H2) : Go K r H H2 := ⟨a.1.trans b.1, b.2, fun sc xs h => by
  obtain ⟨ys, h1⟩ := a.3 sc xs h
  exact b.3 sc ys h1⟩
theorem Go.ex (h : RowAt K H r) (e : Ex H H1) : Go K r H H1 := ⟨Dr.ex e, h.ex e, fun sc xs h => ⟨xs, e _ _ h⟩⟩
theorem Go.refl (h : RowAt K H r) : Go K r H H := Go.ex h (Ex.refl _)
theorem Go.then (a : Go K r H H1) (e : Ex H1 H2) : Go K r H H2 := a.trans (Go.ex a.2 e)
theorem Go.tu (h : RowAt K H r) (g : Go K r H H1) : Tu H H1 := fun a xs e => g.1 a _ (fun z => by
  obtain ⟨sc, ns, i, b, c, h1, _⟩ := h
  rw [z, h1] at e
  cases e) e
theorem sql_upd {p : Addr} {o : HO} {ns : List Int} {sc : Addr} (h : SqL K H sc (ns.map V.int)) (hp : ∀ u, H p = some u → u ≠ .lst (ns.map V.int) ∧ ∀ ob, u ≠ .frz ob (.lst (ns.map V.int))) : SqL K (upd H p o) sc (ns.map V.int) := by
  rcases h with h | h
  · refine .inl ?_
    have hne : sc ≠ p := fun z => by
      rcases h with h | ⟨ob, h⟩
      · exact (hp _ (z ▸ h)).1 rfl
      · exact (hp _ (z ▸ h)).2 ob rfl
    rcases h with h | ⟨ob, h⟩
    · exact .inl (by rw [upd_ne hne]; exact h)
    · exact .inr ⟨ob, by rw [upd_ne hne]; exact h⟩
  · exact .inr h
theorem sql_row {ns : List Int} {sc sc' : Addr} {i b c : Int} {o : HO} (h : SqL K H sc (ns.map V.int)) (hr : H r = some (.lst [.ref sc', .int i, .int b, .int c])) : SqL K (upd H r o) sc (ns.map V.int) := by
  refine sql_upd h fun u hu => ?_
  rw [hr] at hu
  obtain rfl := Option.some.inj hu
  refine ⟨fun z => ?_, fun ob z => by cases z⟩
  cases ns with
  | nil => cases z
  | cons n t => cases z
/-- another new object changes -/
theorem Go.mut {d : Addr} {o : HO} (g : Go K r H H') (hd : H d = none) (hne : d ≠ r) (hno : ∀ u, H' d = some u → (∀ xs, u ≠ .lst xs) ∧ ∀ ob xs, u ≠ .frz ob (.lst xs)) : Go K r H (upd H' d o) := by
  refine ⟨fun q u hq e => ?_, ?_, fun sc xs h => by
    obtain ⟨ys, h1⟩ := g.3 sc xs h
    exact ⟨ys, by rw [upd_ne (Ne.symm hne)]; exact h1⟩⟩
  · rw [upd_ne (ne_of_none e hd)]
    exact g.1 q u hq e
  · obtain ⟨sc, ns, i, b, c, h1, h2, h3⟩ := g.2
    exact ⟨sc, ns, i, b, c, by rw [upd_ne (Ne.symm hne)]; exact h1, h2, sql_upd h3 fun u hu => ⟨(hno u hu).1 _, fun ob => (hno u hu).2 ob _⟩⟩
theorem mkGo {sc : Addr} {ns : List Int} {i b c i' b' c' : Int} (h : H r = some (.lst [.ref sc, .int i, .int b, .int c])) (d : Dr r H H') (h' : H' r = some (.lst [.ref sc, .int i', .int b', .int c'])) (hi : 0 ≤ i') (hs : SqL K H' sc (ns.map V.int)) : Go K r H H' :=
  ⟨d, ⟨sc, ns, i', b', c', h', hi, hs⟩, fun sc' xs e => by
    rw [h] at e
    simp only [Option.some.injEq, HO.lst.injEq, List.cons.injEq, V.ref.injEq] at e
    rw [← e.1]
    exact ⟨_, h'⟩⟩
/-- a new object changes, whatever it is -/
theorem Go.mut2 {D : Addr} {o : HO} (g2 : Go K r H H') (g : RowAt K H r) (hD : H D = none) (hDr : D ≠ r) : Go K r H (upd H' D o) := by
  refine ⟨fun p u hp e => by rw [upd_ne (ne_of_none e hD)]; exact g2.1 _ _ hp e, ?_, fun sc xs h => by
    obtain ⟨ys, h1⟩ := g2.3 sc xs h
    exact ⟨ys, by rw [upd_ne (Ne.symm hDr)]; exact h1⟩⟩
  obtain ⟨sc0, ns0, i0, b0, c0, h0, _, hs0⟩ := g
  obtain ⟨ys, h1⟩ := g2.3 _ _ h0
  obtain ⟨sc, ns, i', b', c', k1, k2, k3⟩ := g2.2
  rw [k1] at h1
  simp only [Option.some.injEq, HO.lst.injEq, List.cons.injEq, V.ref.injEq] at h1
  obtain ⟨rfl, _⟩ := h1
  have k1' : (upd H' D o) r = some (.lst [.ref sc, .int i', .int b', .int c']) := by rw [upd_ne (Ne.symm hDr)]; exact k1
  rcases hs0 with hs0 | hs0
  · have hne : sc ≠ D := fun z => by
      subst z
      rcases hs0 with k | ⟨ob, k⟩
      · rw [hD] at k; cases k
      · rw [hD] at k; cases k
    refine ⟨sc, ns, i', b', c', k1', k2, ?_⟩
    rcases k3 with k3 | k3
    · rcases k3 with k3 | ⟨ob, k3⟩
      · exact .inl (.inl (by rw [upd_ne hne]; exact k3))
      · exact .inl (.inr ⟨ob, by rw [upd_ne hne]; exact k3⟩)
    · exact .inr k3
  · exact ⟨sc, ns0, i', b', c', k1', k2, .inr hs0⟩
theorem Go.new {d : Addr} {o : HO} (g : Go K r H H') (hd : H' d = none) : Go K r H (upd H' d o) := g.then (Ex.new hd)
/-- what is drawn with, whatever the row -/
def EvR (K : PySem.W.Frag) (r : Addr) (te : TE) (σ : L2.St) (H : Hp) (Pd : V → Prop) : Prop := ∀ H1, Go K r H H1 → ∀ Q : VK, (∀ v H2, Go K r H1 H2 → Pd v → Q v H2) → te σ H1 Q
def spTaken (K : PySem.W.Frag) : Sp := fun vs H Q _ => ∃ (r : Addr) (m : Nat), vs = [.ref r, .int (m : Nat)] ∧ 1 ≤ m ∧ m < 1000000 ∧ RowAt K H r ∧ ∀ (x : Nat) H', x < m → Go K r H H' → Q (.int (x : Nat)) H'
theorem evr_taken {tr tm : TE} {m : Nat} (hr : ∀ H1, Go K r H H1 → Ev tr σ H1 (.ref r)) (hm : ∀ H1, Go K r H H1 → Ev tm σ H1 (.int (m : Nat))) (h1 : 1 ≤ m) (h2 : m < 1000000) : EvR K r (tCall (spTaken K) [] E0 (tCons tr (tCons tm tNil))) σ H (fun v => ∃ x : Nat, x < m ∧ v = .int (x : Nat)) := fun H1 g Q q =>
  hr H1 g H1 (Ex.refl _) _ fun H2 e2 => hm H2 (g.then e2) H2 (Ex.refl _) _ fun H3 e3 => ⟨r, m, rfl, h1, h2, (g.2.ex e2).ex e3, fun x H4 hx g4 => q _ H4 ((Go.ex g.2 (e2.trans e3)).trans g4) ⟨x, hx, rfl⟩⟩
theorem fmod_nat {i : Int} {m : Nat} (h : 1 ≤ m) : ∃ x : Nat, x < m ∧ i.fmod (m : Int) = (x : Nat) := by
  have h1 := Int.fmod_nonneg_of_pos i (show (0 : Int) < m by omega)
  have h2 := Int.fmod_lt_of_pos i (show (0 : Int) < m by omega)
  exact ⟨(i.fmod m).toNat, by omega, by omega⟩
end
end Kw

namespace Kw
open PySem PySem.Spec PyProof.Rows L2 Evl
section
variable {P : Program} {w : World} {K : PySem.W.Frag} {mg : Str → Option Value} {base : Heap} {σ : L2.St} {H : Hp}
theorem ev_int1 {te : TE} {i : Int} (h : Ev te σ H (.int i)) : Ev (tCB (fun xs H Q => (∃ i, xs = [V.int i] ∧ Q (.int i) H) ∨ ∃ k, xs = [V.bl k] ∧ Q (.int (if k then 1 else 0)) H) (tCons te tNil)) σ H (.int i) := ev_cb (ea_cons h ea_nil) fun H1 e Q q => .inl ⟨i, rfl, q H1 (Ex.refl _)⟩
theorem rv_fdiv {i j : Int} (h1 : j ≠ 0) (h2 : j.natAbs < 1073741824) : RV (rI CDivN fun i j => .int (i.fdiv j)) (.int i) (.int j) H (.int (i.fdiv j)) := rv_I (C := CDivN) (g := fun i j => V.int (i.fdiv j)) ⟨h1, h2⟩
theorem rv_mod {i j : Int} (h1 : j ≠ 0) : RV (rI (fun _ j => j ≠ 0) fun i j => .int (i.fmod j)) (.int i) (.int j) H (.int (i.fmod j)) := rv_I (C := fun _ j => j ≠ 0) (g := fun i j => V.int (i.fmod j)) h1
theorem rv_mul {i j : Int} (h1 : -(2 ^ 64) < j ∧ j < 2 ^ 64) : RV (rI CMul fun i j => .int (i * j)) (.int i) (.int j) H (.int (i * j)) := rv_I (C := CMul) (g := fun i j => V.int (i * j)) (.inr h1)
theorem ok_l_taken {f : Addr} {fd : FuncData} (D : Df K mg "_law_taken" s_l_taken ["_law_row", "_law_many"] f fd) (B : Bt mg) : FnOk P w K mg base CX0 1 f fd ["_law_row", "_law_many"] (spTaken K) := by
  refine D.F.ok sc_l_taken (fun vs H Q E h => ?_) (fun cdv A outer s H vs Q E hr h => ?_)
  · obtain ⟨r, m, rfl, _⟩ := h
    rfl
  · obtain ⟨r, m, rfl, h1, h2, ra, k⟩ := h
    have nd := sc_l_taken.nd
    refine ⟨_, (pss_cons (ps_if (pt_cmpR op_gt (pe_ix ix_list (pv 0) pe_int (fun _ _ => rfl)) pe_int (nomark _)) (pss_cons (ps_set (i := 2) nd rfl (Or.inl rfl) (pe_op op_modN (pe_callTy call_int1 (by rfl) B.int (by decide +kernel) (pa_cons (pe_ix ix_list (pv 0) pe_int (fun _ _ => rfl)) pa_nil)) (pv 1)))
      (pss_cons (ps_asg (pe_op op_fdivN (pe_ix ix_list (pv 0) pe_int (fun _ _ => rfl)) (pv 1)) (pg_sub (pv 0) pe_int set_list))
      (pss_one (ps_ret (pv 2))))) pss_nil)
      (pss_cons (ps_asg (pe_op op_add (pe_ix ix_list (pv 0) pe_int (fun _ _ => rfl)) pe_int) (pg_sub (pv 0) pe_int set_list))
      (pss_cons (ps_if (pt_cmpR op_gt (pe_ix ix_list (pv 0) pe_int (fun _ _ => rfl)) (pe_callB call_len_seq (by rfl) B.len PySem.boot_len (pa_cons (pe_ix ix_list (pv 0) pe_int (fun _ _ => rfl)) pa_nil)) (nomark _)) (pss_cons (ps_asg (pe_op op_modN (pe_callTy call_int1 (by rfl) B.int (by decide +kernel) (pa_cons (pe_op op_add (pe_op op_mul (pe_ix ix_list (pv 0) pe_int (fun _ _ => rfl)) pe_int) pe_int) pa_nil)) pe_int) (pg_sub (pv 0) pe_int set_list))
      (pss_one (ps_ret (pe_op op_modN (pe_callTy call_int1 (by rfl) B.int (by decide +kernel) (pa_cons (pe_op op_fdivN (pe_ix ix_list (pv 0) pe_int (fun _ _ => rfl)) pe_int) pa_nil)) (pv 1))))) pss_nil)
      (pss_cons (ps_set (i := 3) nd rfl (Or.inl rfl) (pe_ix ix_list (pe_ix ix_list (pv 0) pe_int (fun _ _ => rfl)) (pe_op op_sub (pe_ix ix_list (pv 0) pe_int (fun _ _ => rfl)) pe_int) (fun _ _ => rfl)))
      (pss_cons (ps_asg (pe_op op_modN (pe_callTy call_int1 (by rfl) B.int (by decide +kernel) (pa_cons (pe_op op_add (pe_op op_add (pe_op op_mul (pe_ix ix_list (pv 0) pe_int (fun _ _ => rfl)) pe_int) (pv 3)) pe_int) pa_nil)) pe_int) (pg_sub (pv 0) pe_int set_list))
      (pss_cons (ps_if (pt_cmpR op_ge (pv 3) (pe_op op_pow pe_int pe_int) (nomark _)) (pss_one (ps_asg (pe_op op_fdivN (pv 3) (pv 1)) (pg_sub (pv 0) pe_int set_list))) pss_nil)
      (pss_one (ps_ret (pe_op op_modN (pe_callTy call_int1 (by rfl) B.int (by decide +kernel) (pa_cons (pv 3) pa_nil)) (pv 1)))))))))), ?_⟩
    obtain ⟨sc, ns, i, b, c, hr0, hi, hs⟩ := ra
    have m0 : ((m : Nat) : Int) ≠ 0 := by omega
    have mA : ((m : Nat) : Int).natAbs < 1073741824 := by omega
    have it : ∀ (σ : L2.St) (H1 : Hp) (xs : List V) (j : Nat) (v : V), H1 r = some (.lst xs) → xs[j]? = some v → σ[0]? = some (some (.ref r)) → Ev (tOp (rIxL K) (tVar 0) (tC (.int (j : Nat)))) σ H1 v := fun σ H1 xs j v h1 h2 h3 => ev_op (ev_var h3) ev_c (rv_ixL (sq_of h1) (atI_nat h2))
    have dr : ∀ (H1 : Hp) (xs : List V), Ex H H1 → Dr r H (upd H1 r (.lst xs)) := fun H1 xs e q o hq h => by rw [upd_ne hq]; exact e _ _ h
    have dr2 : ∀ (H1 H2 : Hp) (xs : List V), Dr r H H1 → Ex H1 H2 → Dr r H (upd H2 r (.lst xs)) := fun H1 H2 xs d e q o hq h => by rw [upd_ne hq]; exact e _ _ (d _ _ hq h)
    have sq : ∀ (H1 : Hp) (i' b' c' : Int) (o : HO), SqL K H1 sc (ns.map V.int) → H1 r = some (.lst [.ref sc, .int i', .int b', .int c']) → SqL K (upd H1 r o) sc (ns.map V.int) := fun H1 i' b' c' o h1 h2 => sql_row h1 h2
    refine q_when (b := decide (0 < c)) (et_test (ev_op (it _ _ _ 3 _ hr0 rfl rfl) ev_c rv_I0)) (fun hc H1 e1 => ?_) (fun hc H1 e1 => ?_)
    · obtain ⟨x, hx, ex⟩ := fmod_nat (i := c) h1
      refine q_asg (ev_op (ev_int1 (it _ _ _ 3 _ (e1 _ _ hr0) rfl rfl)) (ev_var rfl) (rv_mod m0)) fun H2 e2 => ?_
      have e12 := e1.trans e2
      refine q_setL (j := 3) (e12 _ _ hr0) (ev_op (it _ _ _ 3 _ (e12 _ _ hr0) rfl rfl) (ev_var rfl) (rv_fdiv m0 mA)) (ev_var rfl) ev_c (by simp) fun H3 e3 => ?_
      have e13 := e12.trans e3
      refine s_ret (ev_var rfl) fun H4 e4 => ?_
      rw [ex]
      exact k x _ hx ((mkGo hr0 (dr _ _ e13) upd_same hi (sq _ _ _ _ _ (ex_l e13 hs) (e13 _ _ hr0))).then e4)
    · refine q_setL (j := 1) (e1 _ _ hr0) (ev_op (it _ _ _ 1 _ (e1 _ _ hr0) rfl rfl) ev_c rv_I0) (ev_var rfl) ev_c (by simp) fun H2 e2 => ?_
      have e12 := e1.trans e2
      have r2 : upd H2 r (.lst [.ref sc, .int (i + 1), .int b, .int c]) r = some (.lst [.ref sc, .int (i + 1), .int b, .int c]) := upd_same
      have s2 : SqL K (upd H2 r (.lst [.ref sc, .int (i + 1), .int b, .int c])) sc (ns.map V.int) := sq _ _ _ _ _ (ex_l e12 hs) (e12 _ _ hr0)
      have d2 : Dr r H (upd H2 r (.lst [.ref sc, .int (i + 1), .int b, .int c])) := dr _ _ e12
      show tSeq _ _ _ _ (upd H2 r (.lst [.ref sc, .int (i + 1), .int b, .int c]))
      generalize upd H2 r (.lst [.ref sc, .int (i + 1), .int b, .int c]) = B2 at r2 s2 d2
      refine q_when (b := decide (((ns.map V.int).length : Int) < i + 1)) (et_test (ev_op (it _ _ _ 1 _ r2 rfl rfl) (ev_len (it _ _ _ 0 _ r2 rfl rfl) s2) rv_I0)) (fun hl H3 e3 => ?_) (fun hl H3 e3 => ?_)
      · refine q_setL (j := 2) (e3 _ _ r2) (ev_op (ev_int1 (ev_op (ev_op (it _ _ _ 2 _ (e3 _ _ r2) rfl rfl) ev_c (rv_mul (by decide))) ev_c rv_I0)) ev_c (rv_mod (by decide))) (ev_var rfl) ev_c (by simp) fun H4 e4 => ?_
        have e34 := e3.trans e4
        have s4 := sq _ _ _ _ (.lst [.ref sc, .int (i + 1), .int ((b * 48271 + 11).fmod 2147483647), .int c]) (ex_l e34 s2) (e34 _ _ r2)
        obtain ⟨x, hx, ex⟩ := fmod_nat (i := ((b * 48271 + 11).fmod 2147483647).fdiv 7) h1
        refine s_ret (ev_op (ev_int1 (ev_op (it _ _ [.ref sc, .int (i + 1), .int ((b * 48271 + 11).fmod 2147483647), .int c] 2 _ upd_same rfl rfl) ev_c (rv_fdiv (by decide) (by decide)))) (ev_var rfl) (rv_mod m0)) fun H5 e5 => ?_
        rw [ex]
        exact k x _ hx ((mkGo hr0 (dr2 _ _ _ d2 e34) upd_same (by omega) s4).then e5)
      · have hl := of_decide_eq_false hl
        rw [List.length_map] at hl
        have hin : i.toNat < ns.length := by omega
        refine q_asg (v := .int (ns[i.toNat]'hin)) (ev_op (it _ _ _ 0 _ (e3 _ _ r2) rfl rfl) (ev_is (ev_op (it _ _ _ 1 _ (e3 _ _ r2) rfl rfl) ev_c rv_I0) (congrArg V.int (show i + 1 - 1 = ((i.toNat : Nat) : Int) by omega))) (rv_ixL (ex_l e3 s2) (atI_nat (by rw [List.getElem?_map, List.getElem?_eq_getElem hin]; rfl)))) fun H4 e4 => ?_
        have e34 := e3.trans e4
        generalize ns[i.toNat]'hin = cell
        refine q_setL (j := 2) (e34 _ _ r2) (ev_op (ev_int1 (ev_op (ev_op (ev_op (it _ _ _ 2 _ (e34 _ _ r2) rfl rfl) ev_c (rv_mul (by decide))) (ev_var rfl) rv_I0) ev_c rv_I0)) ev_c (rv_mod (by decide))) (ev_var rfl) ev_c (by simp) fun H5 e5 => ?_
        have e35 := e34.trans e5
        have s5 := sq _ _ _ _ (.lst [.ref sc, .int (i + 1), .int ((b * 48271 + cell + 11).fmod 2147483647), .int c]) (ex_l e35 s2) (e35 _ _ r2)
        have d5 : Dr r H (upd H5 r (.lst [.ref sc, .int (i + 1), .int ((b * 48271 + cell + 11).fmod 2147483647), .int c])) := dr2 _ _ _ d2 e35
        have r5 : upd H5 r (.lst [.ref sc, .int (i + 1), .int ((b * 48271 + cell + 11).fmod 2147483647), .int c]) r = some (.lst [.ref sc, .int (i + 1), .int ((b * 48271 + cell + 11).fmod 2147483647), .int c]) := upd_same
        show tSeq _ _ _ _ (upd H5 r (.lst [.ref sc, .int (i + 1), .int ((b * 48271 + cell + 11).fmod 2147483647), .int c]))
        generalize upd H5 r (.lst [.ref sc, .int (i + 1), .int ((b * 48271 + cell + 11).fmod 2147483647), .int c]) = B5 at s5 d5 r5
        obtain ⟨x, hx, ex⟩ := fmod_nat (i := cell) h1
        have fin : ∀ H6 : Hp, Go K r H H6 → tRet (tOp (rI (fun _ j => j ≠ 0) fun i j => .int (i.fmod j)) (tCB (fun xs H Q => (∃ i, xs = [V.int i] ∧ Q (.int i) H) ∨ ∃ k, xs = [V.bl k] ∧ Q (.int (if k then 1 else 0)) H) (tCons (tVar 3) tNil)) (tVar 1)) { nx := fun _ H1 => Q .non H1, rt := Q } [some (.ref r), some (.int (m : Nat)), none, some (.int cell)] H6 := fun H6 g => by
          refine s_ret (ev_op (ev_int1 (ev_var rfl)) (ev_var rfl) (rv_mod m0)) fun H7 e7 => ?_
          rw [ex]
          exact k x _ hx (g.then e7)
        refine q_when (b := decide ((10 : Int) ^ 18 ≤ cell)) (et_test (ev_op (ev_var rfl) (ev_op ev_c ev_c (rv_I (C := CPow) (g := fun i j => V.int (i ^ j.toNat)) ⟨by decide, by decide, by decide⟩)) rv_I0)) (fun hge H6 e6 => ?_) (fun hge H6 e6 => ?_)
        · refine s_setL (D := { nx := _, rt := _ }) (j := 3) (e6 _ _ r5) (ev_op (ev_var rfl) (ev_var rfl) (rv_fdiv m0 mA)) (ev_var rfl) ev_c (by simp) fun H7 e7 => ?_
          have e67 := e6.trans e7
          exact fin _ (mkGo hr0 (dr2 _ _ _ d5 e67) upd_same (by omega) (sq _ _ _ _ _ (ex_l e67 s5) (e67 _ _ r5)))
        · exact fin _ (mkGo hr0 (d5.trans (Dr.ex e6)) (e6 _ _ r5) (by omega) (ex_l e6 s5))
end
end Kw

namespace Kw
open PySem PySem.Spec PyProof.Rows L2 Evl

/-! ### dicts whose keys are pairs of letters -/
abbrev PN := Nat × Nat
def kP (p : PN) : List Key := [.inl (p.1 : Int), .inl (p.2 : Int)]
theorem kP_inj {p q : PN} (h : kP p = kP q) : p = q := by
  simp only [kP, List.cons.injEq, Sum.inl.injEq, and_true] at h
  exact Prod.ext (by omega) (by omega)
def insP (L : List PN) (p : PN) : List PN := if p ∈ L then L else L ++ [p]
def DP (kvs : List (List Key × V)) (L : List PN) : Prop := kvs.map (·.1) = L.map kP ∧ L.Nodup
theorem DP.len {kvs : List (List Key × V)} {L : List PN} (h : DP kvs L) : kvs.length = L.length := by
  have := congrArg List.length h.1
  simpa using this
theorem DP.mem {kvs : List (List Key × V)} {L : List PN} (h : DP kvs L) {p : PN} : kP p ∈ kvs.map (·.1) ↔ p ∈ L := by
  rw [h.1, List.mem_map]
  exact ⟨fun ⟨y, h1, h2⟩ => kP_inj h2 ▸ h1, fun h => ⟨p, h, rfl⟩⟩
theorem mem_insP {L : List PN} {p q : PN} : q ∈ insP L p ↔ q ∈ L ∨ q = p := by
  unfold insP
  split
  · rename_i h
    exact ⟨.inl, fun h2 => by rcases h2 with h2 | rfl <;> assumption⟩
  · rw [List.mem_append, List.mem_singleton]
theorem insP_nodup {L : List PN} (h : L.Nodup) (p : PN) : (insP L p).Nodup := by
  unfold insP
  split
  · exact h
  · rw [List.nodup_append]
    exact ⟨h, by simp, fun y hy z hz e => by
      obtain rfl : z = p := by simpa using hz
      exact absurd (e ▸ hy) (by assumption)⟩
theorem DP.put {kvs : List (List Key × V)} {L : List PN} (h : DP kvs L) (p : PN) (v : V) : DP (putK kvs (kP p) v) (insP L p) := by
  have hany : (kvs.any fun kv => decide (kv.1 = kP p)) = decide (p ∈ L) := by
    rw [Bool.eq_iff_iff, List.any_eq_true, decide_eq_true_iff, ← h.mem]
    refine ⟨fun ⟨q, hq, e⟩ => List.mem_map.mpr ⟨q, hq, of_decide_eq_true e⟩, fun hm => ?_⟩
    obtain ⟨q, hq, e⟩ := List.mem_map.mp hm
    exact ⟨q, hq, decide_eq_true e⟩
  refine ⟨?_, insP_nodup h.2 p⟩
  unfold putK insP
  rw [hany]
  by_cases hx : p ∈ L
  · rw [if_pos (decide_eq_true hx), if_pos hx, List.map_map, ← h.1]
    refine List.map_congr_left fun q _ => ?_
    show (if q.1 = kP p then (q.1, v) else q).1 = q.1
    split <;> rfl
  · rw [if_neg (by simpa using hx), if_neg hx, List.map_append, List.map_append, h.1]
    rfl
/-- pairs that are companions, below n -/
def Pg (n : Nat) (L : List PN) : Prop := ∀ p ∈ L, p.1 < p.2 ∧ p.2 < n
theorem Pg.ins {n : Nat} {L : List PN} (h : Pg n L) {p : PN} (h1 : p.1 < p.2) (h2 : p.2 < n) : Pg n (insP L p) := fun q hq => by
  rcases mem_insP.mp hq with hq | rfl
  · exact h q hq
  · exact ⟨h1, h2⟩
def Cv (k : Nat) (L : List PN) : Prop := ∀ l, l < k → ∃ p ∈ L, p.1 = l ∨ p.2 = l
theorem Cv.ins {k : Nat} {L : List PN} (h : Cv k L) (p : PN) : Cv k (insP L p) := fun l hl => by
  obtain ⟨q, hq, e⟩ := h l hl
  exact ⟨q, mem_insP.mpr (.inl hq), e⟩
def pIx (p : PN) : Nat := p.2 * (p.2 - 1) / 2 + p.1
theorem pIx_lt {p : PN} (h1 : p.1 < p.2) (h2 : p.2 < 8) : pIx p < 28 := by
  have : ∀ b < 8, ∀ a < b, pIx (a, b) < 28 := by decide +kernel
  exact this p.2 h2 p.1 h1
theorem pIx_inj {p q : PN} (h1 : p.1 < p.2) (h2 : p.2 < 8) (h3 : q.1 < q.2) (h4 : q.2 < 8) (e : pIx p = pIx q) : p = q := by
  have : ∀ b a d c : Fin 8, a.1 < b.1 → c.1 < d.1 → pIx (a.1, b.1) = pIx (c.1, d.1) → a.1 = c.1 ∧ b.1 = d.1 := by decide +kernel
  have := this ⟨p.2, h2⟩ ⟨p.1, by omega⟩ ⟨q.2, h4⟩ ⟨q.1, by omega⟩ h1 h3 e
  exact Prod.ext this.1 this.2
theorem nodup_map {α β : Type} {f : α → β} : ∀ {l : List α}, l.Nodup → (∀ x ∈ l, ∀ y ∈ l, f x = f y → x = y) → (l.map f).Nodup
  | [], _, _ => List.nodup_nil
  | a :: l, h, inj => by
    obtain ⟨h1, h2⟩ := List.nodup_cons.mp h
    rw [List.map_cons, List.nodup_cons]
    refine ⟨fun hm => ?_, nodup_map h2 fun x hx y hy => inj x (List.mem_cons_of_mem _ hx) y (List.mem_cons_of_mem _ hy)⟩
    obtain ⟨b, hb, e⟩ := List.mem_map.mp hm
    have := inj b (List.mem_cons_of_mem _ hb) a List.mem_cons_self e
    exact h1 (this ▸ hb)
theorem pairs_len {n : Nat} {L : List PN} (h8 : n ≤ 8) (nd : L.Nodup) (g : Pg n L) : L.length ≤ 28 := by
  have := nodup_len 28 (L.map pIx) (nodup_map nd fun p hp q hq e => pIx_inj (g p hp).1 (Nat.lt_of_lt_of_le (g p hp).2 h8) (g q hq).1 (Nat.lt_of_lt_of_le (g q hq).2 h8) e) fun x hx => by
    obtain ⟨p, hp, rfl⟩ := List.mem_map.mp hx
    exact pIx_lt (g p hp).1 (Nat.lt_of_lt_of_le (g p hp).2 h8)
  rwa [List.length_map] at this
/-- what sorted gives, told by places -/
def iP (p : PN) : Int × Int := ((p.1 : Int), (p.2 : Int))
def nP (p : Int × Int) : PN := (p.1.toNat, p.2.toNat)
theorem sorted_co {n : Nat} {L : List PN} {qs : List (Int × Int)} (h2 : 2 ≤ n) (h8 : n ≤ 8) (nd : L.Nodup) (g : Pg n L) (cv : Cv n L) (hp : qs.Perm (L.map iP)) (ho : qs.Pairwise (fun x y => x.1 * 8 + x.2 ≤ y.1 * 8 + y.2)) : Co n (qs.map nP) ∧ ∀ q ∈ qs, iP (nP q) = q := by
  have hq : ∀ q ∈ qs, ∃ p ∈ L, q = iP p := fun q hq => by
    obtain ⟨p, hp, e⟩ := List.mem_map.mp (hp.mem_iff.mp hq)
    exact ⟨p, hp, e.symm⟩
  have hnn : ∀ p : PN, nP (iP p) = p := fun p => Prod.ext (by show ((p.1 : Int)).toNat = p.1; omega) (by show ((p.2 : Int)).toNat = p.2; omega)
  have hperm : (qs.map nP).Perm L := by
    have := hp.map nP
    rw [List.map_map, show (nP ∘ iP) = id from funext hnn, List.map_id] at this
    exact this
  have nd2 : (qs.map nP).Nodup := hperm.nodup_iff.mpr nd
  refine ⟨⟨h2, h8, fun p hp => g p (hperm.mem_iff.mp hp), ?_, fun l hl => ?_, ?_⟩, fun q hq' => ?_⟩
  · have h1 : (qs.map nP).Pairwise (fun x y => x.1 * 8 + x.2 ≤ y.1 * 8 + y.2) := by
      rw [List.pairwise_map]
      refine List.Pairwise.imp_of_mem ?_ ho
      intro x y hx hy h
      obtain ⟨p, _, rfl⟩ := hq x hx
      obtain ⟨q, _, rfl⟩ := hq y hy
      rw [hnn, hnn]
      simp only [iP] at h
      omega
    refine List.Pairwise.imp_of_mem ?_ (h1.and nd2)
    intro x y hx hy h
    have gx := g x (hperm.mem_iff.mp hx)
    have gy := g y (hperm.mem_iff.mp hy)
    rcases Nat.lt_trichotomy x.1 y.1 with h3 | h3 | h3
    · exact .inl h3
    · refine .inr ⟨h3, ?_⟩
      rcases Nat.lt_trichotomy x.2 y.2 with h4 | h4 | h4
      · exact h4
      · exact absurd (Prod.ext h3 h4) h.2
      · have := h.1; omega
    · have := h.1
      omega
  · obtain ⟨p, hp, e⟩ := cv l hl
    exact ⟨p, hperm.mem_iff.mpr hp, e⟩
  · rw [hperm.length_eq]
    exact pairs_len h8 nd g
  · obtain ⟨p, _, rfl⟩ := hq q hq'
    rw [hnn]
theorem pairs_nat {H : Hp} {bs : List Addr} {qs : List (Int × Int)} (h : PairsAt H bs qs) (hq : ∀ q ∈ qs, iP (nP q) = q) : PairsB H bs (qs.map nP) := by
  have : ∀ {bs : List Addr} {qs : List (Int × Int)}, Paired (fun b p => H b = some (.tup (vPair p))) bs qs → (∀ q ∈ qs, iP (nP q) = q) → Paired (fun b q => H b = some (.tup (vP q))) bs (qs.map nP) := by
    intro bs qs h
    induction h with
    | nil => intro _; exact .nil
    | @cons b q bs qs h1 _ ih =>
      intro hq
      refine .cons ?_ (ih fun q hq' => hq q (List.mem_cons_of_mem _ hq'))
      have e := hq q List.mem_cons_self
      show H b = some (.tup (vPair (iP (nP q))))
      rw [e]
      exact h1
  exact this h hq
section
variable {K : PySem.W.Frag} {σ : L2.St} {H H' : Hp} {D : Ends} {tz : TS}
/-- d[(a, b)] = True, the pair new; what is drawn in it is over -/
theorem pair_put {r d b : Addr} {kvs : List (List Key × V)} {L : List PN} {p : PN} (hd : H d = some (.dT kvs)) (dp : DP kvs L) (hb : H b = some (.tup (vP p))) (hl : L.length < 100) {Q : Hp → Prop} (q : ∀ kvs', DP kvs' (insP L p) → Q (upd H d (.dT kvs'))) : rSetD (.ref d) (.ref b) (.bl true) H Q :=
  ⟨d, _, rfl, DPut.t (k := kP p) hd hb (by rw [dp.len]; exact Nat.lt_trans hl (by decide)), q _ (dp.put p _)⟩
end
end Kw

namespace Kw
open PySem PySem.Spec PyProof.Rows L2 Evl

section
variable {K : PySem.W.Frag} {r d : Addr} {H H' H1 H2 : Hp} {σ : L2.St} {D : Ends} {tz tu tw : TS} {ta tb te : TE} {t u : TT} {n : Nat} {L : List PN}
def EvTR (K : PySem.W.Frag) (r : Addr) (t : TT) (σ : L2.St) (H : Hp) (Pb : Bool → Prop) : Prop := ∀ H1, Go K r H H1 → ∀ Q : Bool → Hp → Prop, (∀ b H2, Go K r H1 H2 → Pb b → Q b H2) → t σ H1 Q
theorem evr_ev {v : V} {Pd : V → Prop} (h : ∀ H1, Go K r H H1 → Ev te σ H1 v) (p : Pd v) : EvR K r te σ H Pd := fun H1 g Q q => h H1 g H1 (Ex.refl _) Q fun H2 e => q v H2 (Go.ex g.2 e) p
theorem EvR.imp {Pd Pd' : V → Prop} (h : EvR K r te σ H Pd) (i : ∀ v, Pd v → Pd' v) : EvR K r te σ H Pd' := fun H1 g Q q => h H1 g Q fun v H2 g2 p => q v H2 g2 (i v p)
theorem EvR.mono {Pd : V → Prop} (h : EvR K r te σ H Pd) (g : Go K r H H') : EvR K r te σ H' Pd := fun H1 g1 Q q => h H1 (g.trans g1) Q q
theorem evr_if {b : Bool} {Pd : V → Prop} (ht : ∀ H1, Go K r H H1 → EvT t σ H1 b) (h1 : b = true → EvR K r ta σ H Pd) (h2 : b = false → EvR K r tb σ H Pd) : EvR K r (tIf t ta tb) σ H Pd := fun H1 g Q q => ht H1 g H1 (Ex.refl _) _ fun H2 e => by
  cases b with
  | true =>
    show ta σ H2 Q
    exact h1 rfl H2 (g.then e) Q fun v H3 g3 p => q v H3 ((Go.ex g.2 e).trans g3) p
  | false =>
    show tb σ H2 Q
    exact h2 rfl H2 (g.then e) Q fun v H3 g3 p => q v H3 ((Go.ex g.2 e).trans g3) p
/-- a test of what is drawn: == 0 -/
theorem etr_eq {Pd : V → Prop} {x : V} (h : EvR K r ta σ H Pd) (hs : ∀ v, Pd v → scal v x = true) : EvTR K r (tTest (tOp rEq ta (tC x))) σ H fun _ => True := fun H1 g Q q => h H1 g _ fun v H2 g2 p => ⟨hs v p, ⟨_, rfl, q _ H2 g2 trivial⟩⟩
theorem etr_and {b : Bool} {Pb : Bool → Prop} (ht : ∀ H1, Go K r H H1 → EvT t σ H1 b) (h1 : b = true → EvTR K r u σ H Pb) : EvTR K r (tAnd t u) σ H fun c => c = true → b = true := fun H1 g Q q => ht H1 g H1 (Ex.refl _) _ fun H2 e => by
  cases b with
  | true =>
    show u σ H2 Q
    exact h1 rfl H2 (g.then e) Q fun c H3 g3 p => q c H3 ((Go.ex g.2 e).trans g3) fun _ => rfl
  | false =>
    show Q false H2
    exact q false H2 (Go.ex g.2 e) fun z => z
theorem qr_if {Pb : Bool → Prop} (ra : RowAt K H r) (h : EvTR K r t σ H Pb) (h1 : Pb true → ∀ H1, Go K r H H1 → tu { D with nx := tz D } σ H1) (h2 : ∀ H1, Go K r H H1 → tw { D with nx := tz D } σ H1) : tSeq (tIfS t tu tw) tz D σ H := h H (Go.refl ra) _ fun b H1 g p => by
  cases b with
  | true =>
    show tu _ σ H1
    exact h1 p H1 g
  | false =>
    show tw _ σ H1
    exact h2 H1 g
theorem qr_asg {i : Nat} {Pd : V → Prop} (ra : RowAt K H r) (h : EvR K r te σ H Pd) (k : ∀ v H1, Go K r H H1 → Pd v → tz D (σ.set i (some v)) H1) : tSeq (tAsg te (gName i)) tz D σ H := h H (Go.refl ra) _ fun v H1 g p => k v H1 g p
theorem qr_par2 {i j : Nat} {Pa Pb : V → Prop} (ra : RowAt K H r) (ha : EvR K r ta σ H Pa) (hb : EvR K r tb σ H Pb) (k : ∀ v w H1, Go K r H H1 → Pa v → Pb w → tz D ((σ.set i (some v)).set j (some w)) H1) : tSeq (tPar i j (tCons ta (tCons tb tNil))) tz D σ H := ha H (Go.refl ra) _ fun v H1 g pa => hb H1 g _ fun w H2 g2 pb => ⟨v, w, rfl, k v w H2 (g.trans g2) pa pb⟩
theorem qr_forR1 {j : Nat} (ra : RowAt K H r) (h : EvR K r te σ H fun v => ∃ x : Nat, x < 1000000 ∧ v = .int (x : Nat)) (Pv : L2.St → Hp → Prop) (h0 : ∀ H1, Go K r H H1 → Pv σ H1) (hs : ∀ (i : Nat) σ' H', Pv σ' H' → tu { D with nx := Pv, ct := Pv, bk := tz D } (σ'.set j (some (.int (i : Nat)))) H') (hd : ∀ σ' H', Pv σ' H' → tz D σ' H') :
    tSeq (tFor (iRng1 (tCons te tNil)) (gName j) tu) tz D σ H := h H (Go.refl ra) _ fun v H1 g ⟨x, hx, e⟩ => by
  subst e
  refine ⟨(x : Int), rfl, by omega, by omega, for_range (D := { D with nx := tz D }) (lo := 0) (n := ((x : Nat) : Int).toNat) (fun _ => Pv) (h0 H1 g) (fun i σ' H' _ p => ?_) hd⟩
  show tu { D with nx := Pv, ct := Pv, bk := tz D } (σ'.set j (some (.int ((0 : Int) + (i : Int))))) H'
  rw [Int.zero_add]
  exact hs i σ' H' p

/-- the dict of companions in the making -/
structure CM (K : PySem.W.Frag) (r : Addr) (H H' : Hp) (d n : Nat) (L : List PN) : Prop where
  none : H d = none
  ne : d ≠ r
  go : Go K r H H'
  dict : ∃ kvs, H' d = some (.dT kvs) ∧ DP kvs L
  pg : Pg n L
theorem CM.mono (m : CM K r H H1 d n L) (g : Go K r H1 H2) : CM K r H H2 d n L := ⟨m.none, m.ne, m.go.trans g, by
  obtain ⟨kvs, h1, h2⟩ := m.dict
  exact ⟨kvs, g.1 _ _ m.ne h1, h2⟩, m.pg⟩
theorem s_putR {A : Nat → Prop} {y : Nat} (m : CM K r H H' d n L) (n8 : n ≤ 8) (hd : σ[3]? = some (some (.ref d))) (ha : EvR K r ta σ H' fun v => ∃ x : Nat, A x ∧ v = .int (x : Nat)) (hb : ∀ H1, Go K r H' H1 → Ev tb σ H1 (.int (y : Nat))) (ok : ∀ x, A x → x < y) (hy : y < n)
    (k : ∀ x H2, A x → CM K r H H2 d n (insP L (x, y)) → D.nx σ H2) : tAsg (tC (.bl true)) (gSub (tVar 3) (tTup (tCons ta (tCons tb tNil))) rSetD) D σ H' :=
  ⟨.ref d, hd, ha H' (Go.refl m.go.2) _ fun v H1 g ⟨x, hx, e⟩ => by
    subst e
    refine hb H1 g H1 (Ex.refl _) _ fun H2 e2 => ⟨show 2 ≤ sizeLine by decide, fun b hb => ?_⟩
    have g2 := g.then e2
    have m2 := (m.mono g2).mono (Go.new (o := .tup [.int (x : Nat), .int (y : Nat)]) (Go.refl g2.2) hb)
    obtain ⟨kvs, h1, h2⟩ := m2.dict
    refine pair_put (r := r) (p := (x, y)) h1 h2 upd_same (Nat.lt_of_le_of_lt (pairs_len n8 h2.2 m.pg) (by decide)) fun kvs' hk => k x _ hx ⟨m.none, m.ne, m2.go.mut m.none m.ne fun u hu => ?_, ⟨kvs', upd_same, hk⟩, m.pg.ins (ok x hx) hy⟩
    rw [h1] at hu
    obtain rfl := Option.some.inj hu
    exact ⟨fun xs z => (by cases z), fun ob xs z => (by cases z)⟩⟩
theorem go_none (ra : RowAt K H r) (g : Go K r H H') (hd : H' d = none) : H d = none ∧ d ≠ r := by
  have hne : d ≠ r := fun z => by
    obtain ⟨sc, ns, i, b, c, h1, _⟩ := g.2
    rw [z, h1] at hd
    cases hd
  refine ⟨?_, hne⟩
  cases h : H d with
  | none => rfl
  | some o =>
    rw [g.1 _ _ hne h] at hd
    cases hd
end
end Kw

namespace Kw
open PySem PySem.Spec PyProof.Rows L2 Evl

def spCompany (K : PySem.W.Frag) : Sp := fun vs H Q _ => ∃ (r : Addr) (m : Nat), vs = [.ref r, .int (m : Nat)] ∧ 4 ≤ m ∧ m ≤ 8 ∧ RowAt K H r ∧ ∀ (c : Addr) (n : Nat) (ps : List PN) H', Co n ps → n ≤ m → Go K r H H' → CoAt H' c n ps → Q (.ref c) H'
theorem rgC_two {n : Nat} (h1 : 4 ≤ n) (h2 : n ≤ 8) : RgC 2 ((n : Int) - 1) 2 ((n - 2) / 2) := by
  obtain rfl | rfl | rfl | rfl | rfl : n = 4 ∨ n = 5 ∨ n = 6 ∨ n = 7 ∨ n = 8 := by omega
  · exact ⟨by decide, by decide, by decide +kernel, by decide +kernel⟩
  · exact ⟨by decide, by decide, by decide +kernel, by decide +kernel⟩
  · exact ⟨by decide, by decide, by decide +kernel, by decide +kernel⟩
  · exact ⟨by decide, by decide, by decide +kernel, by decide +kernel⟩
  · exact ⟨by decide, by decide, by decide +kernel, by decide +kernel⟩
section
variable {P : Program} {w : World} {K : PySem.W.Frag} {mg : Str → Option Value} {base : Heap} {σ : L2.St} {H : Hp}
theorem q_forR3 {D : Ends} {tu tz : TS} {ta : TA} {j n : Nat} {lo hi c : Int} (h : EvA ta σ H [.int lo, .int hi, .int c]) (hr : RgC lo hi c n) (Pv : Nat → L2.St → Hp → Prop) (h0 : ∀ H1, Ex H H1 → Pv 0 σ H1)
    (hs : ∀ (i : Nat) σ' H', i < n → Pv i σ' H' → tu { D with nx := Pv (i + 1), ct := Pv (i + 1), bk := tz D } (σ'.set j (some (.int (lo + (i : Nat) * c)))) H') (hd : ∀ σ' H', Pv n σ' H' → tz D σ' H') : tSeq (tFor (iRng3 ta) (gName j) tu) tz D σ H := h H (Ex.refl H) _ fun H1 e =>
  ⟨lo, hi, c, n, rfl, hr, for_rangeC (D := { D with nx := tz D }) Pv (h0 H1 e) hs hd⟩
theorem ok_l_company {f fT : Addr} {fd fdT : FuncData} (D : Df K mg "_law_company" s_l_company ["_law_row", "_law_most"] f fd) (B : Bt mg)
    (DT : Df K mg "_law_taken" s_l_taken ["_law_row", "_law_many"] fT fdT) (GT : FnOk P w K mg base CX0 1 fT fdT ["_law_row", "_law_many"] (spTaken K)) : FnOk P w K mg base CX0 2 f fd ["_law_row", "_law_most"] (spCompany K) := by
  refine D.F.ok sc_l_company (fun vs H Q E h => ?_) (fun cdv A outer s H vs Q E hr h => ?_)
  · obtain ⟨r, m, rfl, _⟩ := h
    rfl
  · obtain ⟨r, m, rfl, h4, h8, ra, k⟩ := h
    have nd := sc_l_company.nd
    refine ⟨_, (pss_cons (ps_par (i := 2) (j := 3) rfl nd rfl rfl (by decide) rfl rfl (pa_cons (pe_op op_add pe_int (pcall DT GT hr (pa_cons (pv 0) (pa_cons (pe_op op_sub (pv 1) pe_int) pa_nil)))) (pa_cons pe_dnewT pa_nil)) (by rfl))
      (pss_cons (ps_for PassesOwn.never rfl (pi_range2 rfl B.range (pa_cons pe_int (pa_cons (pv 2) pa_nil))) (pg_name (i := 4) nd rfl (Or.inl rfl)) (pss_one (ps_asg pe_bl (pg_sub (pv 3) (pe_tup (pa_cons (pcall DT GT hr (pa_cons (pv 0) (pa_cons (pv 4) pa_nil))) (pa_cons (pv 4) pa_nil))) (set_dict (hu_of hr))))))
      (pss_cons (ps_for PassesOwn.never rfl (pi_range1 rfl B.range (pa_cons (pe_ifExp (pt_cmpR op_gt (pv 2) pe_int (nomark _)) (pcall DT GT hr (pa_cons (pv 0) (pa_cons (pe_op op_mul pe_int (pv 2)) pa_nil))) pe_int) pa_nil)) (pg_name (i := 5) nd rfl (Or.inl rfl)) (pss_cons (ps_par (i := 6) (j := 7) rfl nd rfl rfl (by decide) rfl rfl (pa_cons (pcall DT GT hr (pa_cons (pv 0) (pa_cons (pv 2) pa_nil))) (pa_cons (pcall DT GT hr (pa_cons (pv 0) (pa_cons (pv 2) pa_nil))) pa_nil)) (by rfl))
      (pss_one (ps_if (pt_cmpR op_ne (pv 6) (pv 7) (nomark _)) (pss_one (ps_asg pe_bl (pg_sub (pv 3) (pe_tup (pa_cons (pe_callB (call_min2 rfl) (by rfl) B.min (by decide +kernel) (pa_cons (pv 6) (pa_cons (pv 7) pa_nil))) (pa_cons (pe_callB (call_max2 rfl) (by rfl) B.max (by decide +kernel) (pa_cons (pv 6) (pa_cons (pv 7) pa_nil))) pa_nil))) (set_dict (hu_of hr))))) pss_nil))))
      (pss_cons (ps_if (PW.pt (pw_and (pt_cmpR op_gt (pv 2) pe_int (nomark _)) (pw_and1 (pt_cmpR op_eq (pcall DT GT hr (pa_cons (pv 0) (pa_cons pe_int pa_nil))) pe_int (nomark _))))) (pss_cons (ps_set (i := 3) nd rfl (Or.inl rfl) (pe_disp1T (hu_of hr) (pe_tup (pa_cons pe_int (pa_cons pe_int pa_nil))) pe_bl))
      (pss_cons (ps_for PassesOwn.never rfl (pi_range3 rfl B.range (pa_cons pe_int (pa_cons (pe_op op_sub (pv 2) pe_int) (pa_cons pe_int pa_nil)))) (pg_name (i := 4) nd rfl (Or.inl rfl)) (pss_one (ps_asg pe_bl (pg_sub (pv 3) (pe_tup (pa_cons (pv 4) (pa_cons (pe_op op_add (pv 4) pe_int) pa_nil))) (set_dict (hu_of hr))))))
      (pss_one (ps_asg pe_bl (pg_sub (pv 3) (pe_tup (pa_cons (pcall DT GT hr (pa_cons (pv 0) (pa_cons (pe_op op_sub (pv 2) pe_int) pa_nil))) (pa_cons (pe_op op_sub (pv 2) pe_int) pa_nil))) (set_dict (hu_of hr))))))) pss_nil)
      (pss_one (ps_ret (pe_tup (pa_cons (pv 2) (pa_cons (pe_callTy call_tuple_of (by rfl) B.tuple (by decide +kernel) (pa_cons (pe_callB (cr_sortDT rfl) (by rfl) B.sorted (by decide +kernel) (pa_cons (pv 3) pa_nil)) pa_nil)) pa_nil))))))))), ?_⟩
    have t1 := evr_taken (K := K) (r := r) (H := H) (σ := start ["_law_row", "_law_most", "_law_many", "_law_pairs", "_law_at", "_law_turn", "_law_one", "_law_other"] [.ref r, .int (m : Nat)]) (tr := tVar 0) (tm := tOp (rI0 fun i j => .int (i - j)) (tVar 1) (tC (.int 1))) (m := m - 1) (fun H1 g => ev_var rfl) (fun H1 g => ev_is (ev_op (ev_var rfl) ev_c rv_I0) (congrArg V.int (show ((m : Nat) : Int) - 1 = ((m - 1 : Nat) : Int) by omega))) (by omega) (by omega)
    show tCall (spTaken K) [] E0 _ _ H _
    refine t1 H (Go.refl ra) _ fun v H1 g1 hv => ?_
    obtain ⟨x, hx, rfl⟩ := hv
    refine ⟨2, x, rfl, rfl, fun d hd => ⟨_, _, rfl, ?_⟩⟩
    obtain ⟨hdH, hdr⟩ := go_none ra g1 hd
    have m1 : CM K r H (upd H1 d (.dT [])) d (2 + x) [] := ⟨hdH, hdr, g1.new hd, ⟨[], upd_same, rfl, List.nodup_nil⟩, fun p hp => by cases hp⟩
    show tSeq _ _ _ ([some (.ref r), some (.int (m : Nat)), some (.int ((2 : Int) + (x : Int))), some (.ref d), none, none, none, none] : L2.St) (upd H1 d (.dT []))
    rw [show (2 : Int) + (x : Int) = ((2 + x : Nat) : Int) by omega]
    have hnm : 2 + x ≤ m := by omega
    have hn2 : 2 ≤ 2 + x := by omega
    revert m1 hnm hn2
    generalize 2 + x = n
    intro m1 hnm hn2
    have n8 : n ≤ 8 := by omega
    generalize upd H1 d (.dT []) = B1 at m1
    clear t1 hd g1 hx
    -- the end
    have fin : ∀ (d : Addr) (L : List PN) (x4 x5 x6 x7 : Option V) (H2 : Hp), CM K r H H2 d n L → Cv n L → tRet (tTup (tCons (tVar 2) (tCons (tCB (fun xs H Q => ∃ p ys, xs = [V.ref p] ∧ ((SqL K H p ys ∧ ∀ l, H l = none → Q (.ref l) (upd H l (.tup ys))) ∨ (SqT K H p ys ∧ Q (.ref p) H))) (tCons (tCB rSortDT (tCons (tVar 3) tNil)) tNil)) tNil))) { nx := fun _ H1 => Q .non H1, rt := Q } [some (.ref r), some (.int (m : Nat)), some (.int (n : Nat)), some (.ref d), x4, x5, x6, x7] H2 := by
      intro d L x4 x5 x6 x7 H2 m2 cv
      obtain ⟨kvs, h1, h2⟩ := m2.dict
      have hlen := pairs_len n8 h2.2 m2.pg
      refine ⟨.int (n : Nat), rfl, .ref d, rfl, d, kvs, L.map iP, rfl, .inl h1, by rw [h2.1, List.map_map]; rfl, by rw [List.length_map]; omega, fun p hp => ?_, fun qs bs p hperm hord hpairs hp => ⟨p, bs.map V.ref, rfl, .inl ⟨sq_of upd_same, fun l hl => ⟨show 2 ≤ sizeLine by decide, fun c hc => ?_⟩⟩⟩⟩
      · obtain ⟨q, hq, rfl⟩ := List.mem_map.mp hp
        have := m2.pg q hq
        simp only [iP]
        omega
      · obtain ⟨co, hq⟩ := sorted_co hn2 n8 h2.2 m2.pg cv hperm hord
        have e1 : Ex H2 (upd H2 p (.lst (bs.map V.ref))) := Ex.new hp
        have e2 := e1.trans (Ex.new (o := .tup (bs.map V.ref)) hl)
        have e3 := e2.trans (Ex.new (o := .tup [.int (n : Nat), .ref l]) hc)
        exact k c n (qs.map nP) _ co hnm (m2.go.then e3) ⟨l, bs, upd_same, Ex.new hc _ _ upd_same, (pairs_nat hpairs hq).mono (tu_ex e3)⟩
    refine q_forR2 (lo := 1) (n := (n : Nat)) (ea_cons ev_c (ea_cons (ev_var rfl) ea_nil)) (by omega) (fun i σ' H' => ∃ x4 L, σ' = [some (.ref r), some (.int (m : Nat)), some (.int (n : Nat)), some (.ref d), x4, none, none, none] ∧ CM K r H H' d n L ∧ (0 < i → Cv (i + 1) L)) (fun H2 e2 => ⟨_, [], rfl, m1.mono (Go.ex m1.go.2 e2), fun z => absurd z (Nat.lt_irrefl 0)⟩) ?_ ?_
    · rintro i σ' H2 hi ⟨x4, L, rfl, m2, cv⟩
      rw [show (1 : Int) + (i : Int) = ((1 + i : Nat) : Int) by omega]
      refine s_putR (A := fun z => z < 1 + i) (y := 1 + i) m2 n8 rfl (evr_taken (fun H3 g => ev_var rfl) (fun H3 g => ev_var rfl) (by omega) (by omega)) (fun H3 g => ev_var rfl) (fun z hz => hz) (by omega) fun z H3 hz m3 => ⟨_, _, rfl, m3, fun _ l hl => ?_⟩
      by_cases h : l = i + 1
      · exact ⟨(z, 1 + i), mem_insP.mpr (.inr rfl), .inr (by show 1 + i = l; omega)⟩
      · by_cases h0 : 0 < i
        · exact (cv h0).ins _ l (by omega)
        · exact ⟨(z, 1 + i), mem_insP.mpr (.inr rfl), .inl (by show z = l; omega)⟩
    · rintro σ' H2 ⟨x4, L, rfl, m2, cv⟩
      have cv : Cv n L := by
        have h := cv (by omega)
        rwa [show ((n : Int) - 1).toNat + 1 = n by omega] at h
      refine qr_forR1 m2.go.2 (evr_if (b := decide (2 < n)) (fun H3 g => et_is (et_test (ev_op (ev_var rfl) ev_c rv_I0)) (decide_eq_decide.mpr (by omega))) (fun _ => (evr_taken (m := 2 * n) (fun H3 g => ev_var rfl) (fun H3 g => ev_is (ev_op (ev_c (v := .int 2)) (ev_var rfl) (rv_I (C := CMul) (g := fun i j => V.int (i * j)) (.inl (by decide)))) (congrArg V.int (show (2 : Int) * (n : Int) = ((2 * n : Nat) : Int) by omega))) (by omega) (by omega)).imp fun v ⟨z, h1, h2⟩ => ⟨z, by omega, h2⟩) (fun _ => evr_ev (v := .int (0 : Nat)) (fun H3 g => ev_c) ⟨0, by omega, rfl⟩))
        (fun σ' H' => ∃ x4 x5 x6 x7 L, σ' = [some (.ref r), some (.int (m : Nat)), some (.int (n : Nat)), some (.ref d), x4, x5, x6, x7] ∧ CM K r H H' d n L ∧ Cv n L) (fun H3 g => ⟨_, _, _, _, L, rfl, m2.mono g, cv⟩) ?_ ?_
      · skip
        rintro i σ' H3 ⟨x4, x5, x6, x7, L, rfl, m2, cv⟩
        refine qr_par2 m2.go.2 (evr_taken (fun H3 g => ev_var rfl) (fun H3 g => ev_var rfl) (by omega) (by omega)) (evr_taken (fun H3 g => ev_var rfl) (fun H3 g => ev_var rfl) (by omega) (by omega)) fun v w H4 g4 hv hw => ?_
        obtain ⟨y, hy, rfl⟩ := hv
        obtain ⟨z, hz, rfl⟩ := hw
        have m4 := m2.mono g4
        refine s_when (b := !decide (V.int ((y : Nat) : Int) = V.int ((z : Nat) : Int))) (et_test (ev_op (ev_var rfl) (ev_var rfl) (rv_ne rfl))) (fun hne H5 e5 => ?_) (fun _ H5 e5 => ⟨_, _, _, _, L, rfl, m4.mono (Go.ex m4.go.2 e5), cv⟩)
        have hyz : y ≠ z := fun h => by rw [h] at hne; simp at hne
        have m5 := m4.mono (Go.ex m4.go.2 e5)
        refine s_putR (A := fun q => q = min y z) (y := max y z) m5 n8 rfl (evr_ev (v := .int ((min y z : Nat) : Int)) (fun H6 g => ev_is (ev_cb (ea_cons (ev_var rfl) (ea_cons (ev_var rfl) ea_nil)) fun H7 e7 Q' q' => ⟨_, _, rfl, q' H7 (Ex.refl _)⟩) (congrArg V.int ?_)) ⟨_, rfl, rfl⟩) (fun H6 g => ev_is (ev_cb (ea_cons (ev_var rfl) (ea_cons (ev_var rfl) ea_nil)) fun H7 e7 Q' q' => ⟨_, _, rfl, q' H7 (Ex.refl _)⟩) (congrArg V.int ?_)) (fun q hq => by omega) (by omega) fun q H6 hq m6 => ⟨_, _, _, _, _, rfl, m6, cv.ins _⟩
        · split <;> omega
        · split <;> omega
      · skip
        rintro σ' H3 ⟨x4, x5, x6, x7, L, rfl, m2, cv⟩
        refine qr_if m2.go.2 (etr_and (b := decide (3 < n)) (fun H4 g => et_is (et_test (ev_op (ev_var rfl) ev_c rv_I0)) (decide_eq_decide.mpr (by omega))) fun _ => etr_eq (evr_taken (m := 3) (fun H4 g => ev_var rfl) (fun H4 g => ev_c) (by omega) (by omega)) fun v ⟨z, _, hz⟩ => by rw [hz]; rfl) (fun hb H4 g4 => ?_) (fun H4 g4 => fin d L _ _ _ _ H4 (m2.mono g4) cv)
        have hn4 : 4 ≤ n := by
          have := of_decide_eq_true (hb rfl)
          omega
        have m4 := m2.mono g4
        refine fun d2 hd2 => ?_
        obtain ⟨hdH2, hdr2⟩ := go_none ra m4.go hd2
        have g5 : Go K r H (upd H4 d2 (.dT [])) := m4.go.new hd2
        refine ⟨show 2 ≤ sizeLine by decide, fun b hb => ⟨[.inl 0, .inl 1], b, .bl true, rfl, upd_same, by rw [upd_ne (fun z => by rw [← z, upd_same] at hb; cases hb)]; exact upd_same, ?_⟩⟩
        have g6 : Go K r H (upd (upd H4 d2 (.dT [])) b (.tup [.int 0, .int 1])) := g5.new hb
        have h6 : (upd (upd H4 d2 (.dT [])) b (.tup [.int 0, .int 1])) d2 = some (.dT []) := by
          rw [upd_ne (fun z => by rw [← z, upd_same] at hb; cases hb)]
          exact upd_same
        have m6 : CM K r H (upd (upd (upd H4 d2 (.dT [])) b (.tup [.int 0, .int 1])) d2 (.dT [([.inl 0, .inl 1], .bl true)])) d2 n [(0, 1)] := ⟨hdH2, hdr2, g6.mut hdH2 hdr2 fun u hu => (by
          rw [h6] at hu
          obtain rfl := Option.some.inj hu
          exact ⟨fun xs z => (by cases z), fun ob xs z => (by cases z)⟩), ⟨_, upd_same, rfl, by simp⟩, fun p hp => by
          obtain rfl : p = (0, 1) := by simpa using hp
          exact ⟨by decide, by show 1 < n; omega⟩⟩
        have c6 : Cv 2 [((0 : Nat), (1 : Nat))] := fun l hl => ⟨(0, 1), by simp, by show (0 : Nat) = l ∨ (1 : Nat) = l; omega⟩
        show tSeq _ _ _ _ (upd (upd (upd H4 d2 (.dT [])) b (.tup [.int 0, .int 1])) d2 (.dT [([.inl 0, .inl 1], .bl true)]))
        generalize upd (upd (upd H4 d2 (.dT [])) b (.tup [.int 0, .int 1])) d2 (.dT [([.inl 0, .inl 1], .bl true)]) = B6 at m6
        refine q_forR3 (ea_cons ev_c (ea_cons (ev_op (ev_var rfl) ev_c rv_I0) (ea_cons ev_c ea_nil))) (rgC_two hn4 n8) (fun j σ' H' => ∃ x4 L, σ' = [some (.ref r), some (.int (m : Nat)), some (.int (n : Nat)), some (.ref d2), x4, x5, x6, x7] ∧ CM K r H H' d2 n L ∧ Cv (2 + 2 * j) L) (fun H7 e7 => ⟨_, _, rfl, m6.mono (Go.ex m6.go.2 e7), c6⟩) ?_ ?_
        · rintro j σ' H8 hj ⟨y4, LL, rfl, m8, c8⟩
          show tAsg _ _ _ (([some (.ref r), some (.int (m : Nat)), some (.int (n : Nat)), some (.ref d2), y4, x5, x6, x7] : L2.St).set 4 (some (.int ((2 : Int) + ((j : Nat) : Int) * 2)))) H8
          rw [show (2 : Int) + ((j : Nat) : Int) * 2 = ((2 + 2 * j : Nat) : Int) by omega]
          refine s_putR (A := fun q => q = 2 + 2 * j) (y := 2 + 2 * j + 1) m8 n8 rfl (evr_ev (fun H9 g => ev_var rfl) ⟨_, rfl, rfl⟩) (fun H9 g => ev_is (ev_op (ev_var rfl) ev_c rv_I0) rfl) (fun q hq => by omega) (by omega) fun q H9 hq m9 => ⟨_, _, rfl, m9, fun l hl => ?_⟩
          subst hq
          by_cases h : l < 2 + 2 * j
          · exact c8.ins _ l h
          · exact ⟨(2 + 2 * j, 2 + 2 * j + 1), mem_insP.mpr (.inr rfl), by show 2 + 2 * j = l ∨ 2 + 2 * j + 1 = l; omega⟩
        · rintro σ' H8 ⟨y4, LL, rfl, m8, c8⟩
          refine s_putR (A := fun q => q < n - 1) (y := n - 1) m8 n8 rfl (evr_taken (m := n - 1) (fun H4 g => ev_var rfl) (fun H9 g => ev_is (ev_op (ev_var rfl) ev_c rv_I0) (congrArg V.int (show ((n : Nat) : Int) - 1 = ((n - 1 : Nat) : Int) by omega))) (by omega) (by omega)) (fun H9 g => ev_is (ev_op (ev_var rfl) ev_c rv_I0) (congrArg V.int (show ((n : Nat) : Int) - 1 = ((n - 1 : Nat) : Int) by omega))) (fun q hq => hq) (by omega) fun q H9 hq m9 => fin d2 _ _ _ _ _ H9 m9 fun l hl => ?_
          by_cases h : l < 2 + 2 * ((n - 2) / 2)
          · exact c8.ins _ l h
          · exact ⟨(q, n - 1), mem_insP.mpr (.inr rfl), .inr (by show n - 1 = l; omega)⟩
end
end Kw

namespace Kw
open PySem PySem.Spec PyProof.Rows L2 Evl

theorem empty_app (a : Str) : (⟨#[]⟩ : Str) ++ a = a := by
  show (⟨#[] ++ a.cps⟩ : Str) = a
  rw [Array.empty_append]
theorem join_sg (ls : List Nat) : Txt.join "" (ls.map sg) = wS ls := by
  rw [TL.join_eq]
  induction ls with
  | nil => rfl
  | cons a t ih =>
    cases t with
    | nil => rfl
    | cons b t =>
      show Str.join "" (sg a :: sg b :: t.map sg) = wS (a :: b :: t)
      unfold Str.join
      have ih : Str.join "" (sg b :: t.map sg) = wS (b :: t) := ih
      rw [ih, sg_wS]
      rw [show (("" : Str)) = wS [] from rfl, wS_app, wS_app]
      rfl
theorem sg_len (ls : List Nat) : ((ls.map sg).map (·.length)).sum = ls.length := by
  induction ls with
  | nil => rfl
  | cons a t ih =>
    rw [List.map_cons, List.map_cons, List.sum_cons, ih, List.length_cons]
    show 1 + _ = _
    omega
section
variable {K : PySem.W.Frag} {r : Addr} {H H' H1 H2 : Hp} {σ : L2.St} {D : Ends} {tz tu tw : TS} {ta tb te : TE} {tt : TT}
/-- what is walked stands, whatever is drawn -/
def WkR (K : PySem.W.Frag) (r : Addr) (wi : TI) (σ : L2.St) (H : Hp) (xs : List V) : Prop := ∀ H1, Go K r H H1 → ∀ R : It → Hp → Prop, (∀ J H2, Go K r H1 H2 → Walk J xs.length (fun _ => True) (YAt xs) → R J H2) → wi σ H1 R
theorem wk_str {u : List Nat} (h : ∀ H1, Go K r H H1 → Ev te σ H1 (.str (wS u))) : WkR K r (iStr te) σ H (u.map fun a => .str (sg a)) := fun H1 g R q => h H1 g H1 (Ex.refl _) _ fun H2 e => ⟨wS u, rfl, q _ _ (Go.ex g.2 e) (by rw [← signs_wS]; exact walk_signs)⟩
theorem wk_rng {m : Nat} (h : EvR K r te σ H fun v => v = .int (m : Nat)) (hm : m < 1000000) : WkR K r (iRng1 (tCons te tNil)) σ H (vInts 0 m) := fun H1 g R q => h H1 g _ fun v H2 g2 hv => by
  subst hv
  refine ⟨(m : Nat), rfl, by omega, by omega, q _ _ g2 ?_⟩
  rw [Int.toNat_natCast]
  exact walk_vInts
/-- a comprehension whose test is drawn: some of them, in their order -/
theorem evr_lcT {α : Type} {wi : TI} {j : Nat} {vs : List Nat} (as : List α) (item : α → V) (g : α → V) (hi : WkR K r wi σ H (as.map item)) (hz : as.length ≤ sizeLine) (hw : ∀ x, wipe ((wipe σ vs).set j (some x)) vs = wipe σ vs)
    (ht : ∀ a ∈ as, EvTR K r tt ((wipe σ vs).set j (some (item a))) H fun _ => True) (he : ∀ a ∈ as, ∀ H1, Go K r H H1 → Ev te ((wipe σ vs).set j (some (item a))) H1 (g a)) :
    ∀ H1, Go K r H H1 → ∀ Q : VK, (∀ p H2 (ls : List α), Go K r H1 H2 → H2 p = some (.lst (ls.map g)) → ls.Sublist as → p ≠ r → Q (.ref p) H2) → tLc wi (gName j) tt te vs σ H1 Q := fun H1 g1 Q q => hi H1 g1 _ fun J H2 g2 W D hD => by
  have hDr := (go_none g1.2 g2 hD).2
  have hDH := (go_none g1.2 g2 hD).1
  refine lc_it W (fun i H' => Go K r H2 H' ∧ ∃ ls, H' D = some (.lst (ls.map g)) ∧ ls.Sublist (as.take i)) ⟨Go.ex g2.2 (Ex.new hD), [], upd_same, List.Sublist.refl _⟩ (fun i H' _ p => trivial) ?_ (fun H' p => ?_)
  · rintro i x H' H'' hlt ⟨gg, ls, hl, hs⟩ ⟨rfl, hx⟩
    rw [List.length_map] at hlt
    rw [List.getElem?_map, List.getElem?_eq_getElem hlt] at hx
    obtain rfl : item as[i] = x := by simpa using hx
    have hm : as[i] ∈ as := List.getElem_mem hlt
    have hsn := take_snoc (List.getElem?_eq_getElem hlt)
    refine ⟨hw _, ht _ hm H'' ((g1.trans g2).trans gg) _ fun b H3 g3 _ => ?_⟩
    have hl3 := g3.1 _ _ hDr hl
    cases b with
    | false => exact ⟨gg.trans g3, ls, hl3, by rw [hsn]; exact hs.trans (List.sublist_append_left _ _)⟩
    | true =>
      refine he _ hm H3 (((g1.trans g2).trans gg).trans g3) H3 (Ex.refl _) _ fun H4 e4 => ⟨_, e4 _ _ hl3, ?_, ?_, ls ++ [as[i]], ?_, ?_⟩
      · rw [List.length_map]
        have := hs.length_le
        rw [List.length_take] at this
        omega
      · exact ((gg.trans g3).then e4).mut2 g2.2 hD hDr
      · rw [upd_same, List.map_append]
        rfl
      · rw [hsn]
        exact hs.append (List.Sublist.refl _)
  · obtain ⟨gg, ls, hl, hs⟩ := p
    rw [List.length_map, List.take_length] at hs
    exact q D H' ls (g2.trans gg) hl hs hDr
/-- a comprehension whose items are drawn, so many times as is drawn -/
theorem evr_lcE {α : Type} {wi : TI} {j : Nat} {vs : List Nat} {Pd : V → Prop} (C : List α → Prop) (item : α → V) (hi : ∀ H1, Go K r H H1 → ∀ R : It → Hp → Prop, (∀ J H2 (as : List α), C as → Go K r H1 H2 → Walk J (as.map item).length (fun _ => True) (YAt (as.map item)) → R J H2) → wi σ H1 R) (hz : ∀ as, C as → as.length ≤ sizeLine) (hw : ∀ x, wipe ((wipe σ vs).set j (some x)) vs = wipe σ vs)
    (he : ∀ a, EvR K r te ((wipe σ vs).set j (some (item a))) H Pd) :
    ∀ H1, Go K r H H1 → ∀ Q : VK, (∀ p H2 (ys : List V) as, C as → Go K r H1 H2 → H2 p = some (.lst ys) → ys.length = as.length → (∀ y ∈ ys, Pd y) → p ≠ r → Q (.ref p) H2) → tLc wi (gName j) tYes te vs σ H1 Q := fun H1 g1 Q q => hi H1 g1 _ fun J H2 as hC g2 W D hD => by
  have hDr := (go_none g1.2 g2 hD).2
  have hz := hz as hC
  refine lc_it W (fun i H' => Go K r H2 H' ∧ ∃ ys, H' D = some (.lst ys) ∧ ys.length = i ∧ i ≤ as.length ∧ ∀ y ∈ ys, Pd y) ⟨Go.ex g2.2 (Ex.new hD), [], upd_same, rfl, Nat.zero_le _, fun y hy => by cases hy⟩ (fun i H' _ p => trivial) ?_ (fun H' p => ?_)
  · rintro i x H' H'' hlt ⟨gg, ys, hl, hs, _, hp⟩ ⟨rfl, hx⟩
    rw [List.length_map] at hlt
    rw [List.getElem?_map, List.getElem?_eq_getElem hlt] at hx
    obtain rfl : item as[i] = x := by simpa using hx
    refine ⟨hw _, ?_⟩
    show te _ _ _
    refine he _ H'' ((g1.trans g2).trans gg) _ fun v H4 g4 pv => ⟨ys, g4.1 _ _ hDr hl, by omega, (gg.trans g4).mut2 g2.2 hD hDr, ys ++ [v], upd_same, by rw [List.length_append, hs]; rfl, hlt, fun y hy => ?_⟩
    rcases List.mem_append.mp hy with hy | hy
    · exact hp y hy
    · obtain rfl : y = v := by simpa using hy
      exact pv
  · obtain ⟨gg, ys, hl, hs, _, hp⟩ := p
    rw [List.length_map] at hs
    exact q D H' ys as hC (g2.trans gg) hl hs hp hDr
theorem strs_of {ys : List V} {n : Nat} (h : ∀ y ∈ ys, ∃ x : Nat, x < n ∧ y = .str (sg x)) : ∃ ls : List Nat, ys = ls.map (fun a => .str (sg a)) ∧ ls.length = ys.length ∧ ∀ x ∈ ls, x < n := by
  induction ys with
  | nil => exact ⟨[], rfl, rfl, fun x hx => by cases hx⟩
  | cons y t ih =>
    obtain ⟨x, hx, rfl⟩ := h y List.mem_cons_self
    obtain ⟨ls, h1, h2, h3⟩ := ih fun z hz => h z (List.mem_cons_of_mem _ hz)
    refine ⟨x :: ls, by rw [h1]; rfl, by rw [List.length_cons, List.length_cons, h2], fun z hz => ?_⟩
    rcases List.mem_cons.mp hz with rfl | hz
    · exact hx
    · exact h3 z hz
/-- ''.join of a list of single signs -/
theorem ev_joinD {H : Hp} {p : Addr} {ls : List Nat} {Q : VK} (hp : H p = some (.lst (ls.map fun a => .str (sg a)))) (hz : ls.length ≤ 1000) (q : Q (.str (wS ls)) H) :
    ∃ a p', ∃ ys : List Str, V.str "" = .str a ∧ [V.ref p] = [.ref p'] ∧ (SqL K H p' (ys.map V.str) ∨ SqT K H p' (ys.map V.str)) ∧ (ys.map (·.length)).sum + ys.length * a.length ≤ 16777216 ∧ Q (.str (Txt.join a ys)) H :=
  ⟨"", p, ls.map sg, rfl, rfl, .inl (sq_of (by rw [List.map_map]; exact hp)), by
    rw [sg_len, List.length_map]
    show ls.length + ls.length * 0 ≤ 16777216
    omega, by rw [join_sg]; exact q⟩
end
end Kw

namespace Kw
open PySem PySem.Spec PyProof.Rows L2 Evl

theorem count_wS (u : List Nat) (a : Nat) : Txt.count (wS u) (sg a) = ((u.count a : Nat) : Int) := by
  have h := PyProof.Rows.count_is (wS u) (97 + a)
  rw [wS_list] at h
  rw [h]
  induction u with
  | nil => rfl
  | cons b t ih =>
    have hc := PyProof.Rows.cnt_cons (97 + a) (97 + b) (t.map (97 + ·))
    have hc2 : PySem.Spec.countIn (.str ⟨#[97 + a]⟩) (((97 + b) :: t.map (97 + ·)).map fun n => PyData.str ⟨#[n]⟩) = (if 97 + b = 97 + a then 1 else 0) + PySem.Spec.countIn (.str ⟨#[97 + a]⟩) ((t.map (97 + ·)).map fun n => PyData.str ⟨#[n]⟩) := hc
    show PySem.Spec.countIn (.str ⟨#[97 + a]⟩) (((97 + b) :: t.map (97 + ·)).map fun n => PyData.str ⟨#[n]⟩) = _
    rw [hc2, ih (PyProof.Rows.count_is (wS t) (97 + a) |>.trans (by rw [wS_list])), List.count_cons]
    by_cases e : b = a
    · subst e
      simp
      omega
    · rw [if_neg (by omega), if_neg (by simpa using e)]
      omega
/-- x in a tuple of data -/
def rInDT (K : PySem.W.Frag) : R2 := fun x y H Q => ∃ d ds, Dp K H x d ∧ Dp K H y (.tuple ds) ∧ SeqAt.shaped d = true ∧ SeqAt.shaped (.tuple ds) = true ∧ Q (.bl (ds.any fun z => PyData.eqv z d)) H
theorem op_inDT {X : Cx} (hu : X.A.units + 65 < cLine) : OpR X (compareOp .In) (rInDT X.K) := by
  intro pins s σ H x y v u Q I rx ry h
  obtain ⟨d, ds, hd, he, sd, se, q⟩ := h
  obtain ⟨as, r1⟩ := Dp.reads I d x v hd rx
  obtain ⟨bs, r2⟩ := Dp.reads I (.tuple ds) y u he ry
  exact SeqAt.in_tuple_reads r2 r1 (SeqAt.canLay_of_shaped se) (SeqAt.canLay_of_shaped sd) (room_in_shaped sd hu) ⟨.bl _, H, I, rfl, q⟩
abbrev dP (p : PN) : PyData := prI (p.1 : Int) (p.2 : Int)
theorem dP_depth : ∀ ps : List PN, PyData.depthAll (ps.map dP) ≤ 4
  | [] => by simp [PyData.depthAll]
  | p :: t => by
    have h1 := dP_depth t
    simp only [List.map_cons, PyData.depthAll, dP, prI, PyData.depth]
    omega
theorem dP_lay : ∀ ps : List PN, PyData.canLayAll0 (ps.map dP) = true
  | [] => by simp [PyData.canLayAll0]
  | p :: t => by
    have h1 := dP_lay t
    simp only [List.map_cons, PyData.canLayAll0, dP, prI, PyData.canLay0, h1]
    rfl
theorem dP_shaped (ps : List PN) : SeqAt.shaped (.tuple (ps.map dP)) = true := by
  have h1 := dP_depth ps
  have h2 : PyData.depth (.tuple (ps.map dP)) ≤ 64 := by
    simp only [PyData.depth]
    omega
  show (PyData.canLay0 (.tuple (ps.map dP)) && decide (PyData.depth (.tuple (ps.map dP)) ≤ 64)) = true
  rw [Bool.and_eq_true]
  exact ⟨by simp only [PyData.canLay0]; exact dP_lay ps, decide_eq_true h2⟩
section
variable {K : PySem.W.Frag} {H H' : Hp} {σ : L2.St} {ta tb : TE}
theorem dp_pair {H : Hp} {b : Addr} {p : PN} (h : H b = some (.tup (vP p))) : Dp K H (.ref b) (dP p) := .tup (st_of h) (.cons (.int _) (.cons (.int _) .nil))
theorem dp_pairs {H : Hp} {bs : List Addr} {ps : List PN} (h : PairsB H bs ps) : DpAll K H (bs.map V.ref) (ps.map dP) := by
  have : ∀ {bs : List Addr} {ps : List PN}, Paired (fun b q => H b = some (.tup (vP q))) bs ps → DpAll K H (bs.map V.ref) (ps.map dP) := by
    intro bs ps h
    induction h with
    | nil => exact .nil
    | cons h1 _ ih => exact .cons (dp_pair h1) ih
  exact this h
theorem any_pair (ps : List PN) (q : PN) : ((ps.map dP).any fun z => PyData.eqv z (dP q)) = decide (q ∈ ps) := by
  rw [List.any_map, Bool.eq_iff_iff, List.any_eq_true, decide_eq_true_iff]
  constructor
  · rintro ⟨p, hp, e⟩
    have e : PyData.eqv (dP p) (dP q) = true := e
    rw [prI_eqv] at e
    have := of_decide_eq_true e
    have : p = q := Prod.ext (by omega) (by omega)
    exact this ▸ hp
  · intro h
    exact ⟨q, h, by show PyData.eqv (dP q) (dP q) = true; rw [prI_eqv]; exact decide_eq_true ⟨rfl, rfl⟩⟩
theorem sg_ite {a b : Nat} {c : Prop} [Decidable c] : (if c then sg a else sg b) = sg (if c then a else b) := by split <;> rfl
theorem sg_lt_iff {a b : Nat} : (sg a).cps.toList < (sg b).cps.toList ↔ a < b := by
  show [97 + a] < [97 + b] ↔ _
  rw [List.cons_lt_cons_iff]
  constructor
  · rintro (h | ⟨_, h⟩)
    · omega
    · exact absurd h (by simp)
  · intro h
    exact .inl (by omega)
theorem ev_min2 {a b : Nat} (ha : Ev ta σ H (.str (sg a))) (hb : Ev tb σ H (.str (sg b))) : Ev (tCB rMin2S (tCons ta (tCons tb tNil))) σ H (.str (sg (min a b))) := ev_cb (ea_cons ha (ea_cons hb ea_nil)) fun H1 e Q q => ⟨sg a, sg b, rfl, by
  have : (if (sg b).cps.toList < (sg a).cps.toList then sg b else sg a) = sg (min a b) := by
    by_cases h : b < a
    · rw [if_pos (sg_lt_iff.mpr h), Nat.min_eq_right (by omega)]
    · rw [if_neg (fun z => h (sg_lt_iff.mp z)), Nat.min_eq_left (by omega)]
  rw [this]
  exact q H1 (Ex.refl _)⟩
theorem ev_max2S {a b : Nat} (ha : Ev ta σ H (.str (sg a))) (hb : Ev tb σ H (.str (sg b))) : Ev (tCB rMax2S (tCons ta (tCons tb tNil))) σ H (.str (sg (max a b))) := ev_cb (ea_cons ha (ea_cons hb ea_nil)) fun H1 e Q q => ⟨sg a, sg b, rfl, by
  have : (if (sg a).cps.toList < (sg b).cps.toList then sg b else sg a) = sg (max a b) := by
    by_cases h : a < b
    · rw [if_pos (sg_lt_iff.mpr h), Nat.max_eq_right (by omega)]
    · rw [if_neg (fun z => h (sg_lt_iff.mp z)), Nat.max_eq_left (by omega)]
  rw [this]
  exact q H1 (Ex.refl _)⟩
end
end Kw

namespace Kw
open PySem PySem.Spec PyProof.Rows L2 Evl

def spDrawn (K : PySem.W.Frag) : Sp := fun vs H Q _ => ∃ (r c : Addr) (n : Nat) (ps : List PN), vs = [.ref r, .ref c] ∧ RowAt K H r ∧ Co n ps ∧ CoAt H c n ps ∧ ∀ (k : Addr) (u : List Nat) (s : Nat) H', Ki n u s → Go K r H H' → KiAt H' k u s → Q (.ref k) H'
def spWord (K : PySem.W.Frag) : Sp := fun vs H Q _ => ∃ (r c : Addr) (n : Nat) (ps : List PN) (m : Nat), vs = [.ref r, .ref c, .int (m : Nat)] ∧ RowAt K H r ∧ Co n ps ∧ CoAt H c n ps ∧ 1 ≤ m ∧ m ≤ 100 ∧ ∀ (u : List Nat) H', (∀ x ∈ u, x < n) → 1 ≤ u.length → u.length ≤ m → Go K r H H' → Q (.str (wS u)) H'
def spPick (K : PySem.W.Frag) : Sp := fun vs H Q _ => ∃ (r : Addr) (x : V) (u : List Nat), vs = [.ref r, x] ∧ RowAt K H r ∧ (x = .str (wS u) ∨ ∃ l, x = .ref l ∧ l ≠ r ∧ H l = some (.lst (u.map fun a => .str (sg a)))) ∧ 1 ≤ u.length ∧ u.length ≤ 1000 ∧ ∀ a H', a ∈ u → Go K r H H' → Q (.str (sg a)) H'
def spFriend : Sp := fun vs H Q _ => ∃ (c : Addr) (n : Nat) (ps : List PN) (a b : Nat), vs = [.ref c, .str (sg a), .str (sg b)] ∧ Co n ps ∧ CoAt H c n ps ∧ a < 8 ∧ b < 8 ∧ RetV (.bl (fr ps a b)) H Q
section
variable {P : Program} {w : World} {K : PySem.W.Frag} {mg : Str → Option Value} {base : Heap} {σ : L2.St} {H : Hp}
theorem units65 {k : Nat} {A : Around} (r : Room k A) : A.units + 65 < cLine := by
  have := r.un
  omega
theorem q_joinD {D : Ends} {tz : TS} {tw : TE} {r : Addr} {n i : Nat} (ra : RowAt K H r) (h : ∀ H1, Go K r H H1 → ∀ Q : VK, (∀ p H2 (ls : List Nat), Go K r H1 H2 → H2 p = some (.lst (ls.map fun a => V.str (sg a))) → ls.Sublist (List.range n) → p ≠ r → Q (.ref p) H2) → tw σ H1 Q) (hn : n ≤ 1000)
    (k : ∀ (ls : List Nat) H1, ls.Sublist (List.range n) → Go K r H H1 → tz D (σ.set i (some (.str (wS ls)))) H1) :
    tSeq (tAsg (tM1 (fun x xs H Q => ∃ a p, ∃ ys : List Str, x = .str a ∧ xs = [.ref p] ∧ (SqL K H p (ys.map V.str) ∨ SqT K H p (ys.map V.str)) ∧ (ys.map (·.length)).sum + ys.length * a.length ≤ 16777216 ∧ Q (.str (Txt.join a ys)) H) (tC (.str "")) tw) (gName i)) tz D σ H :=
  ⟨⟨_, rfl⟩, h H (Go.refl ra) _ fun p H2 ls g hp hs _ => ev_joinD (K := K) (Q := fun x H1 => tz D (σ.set i (some x)) H1) hp (by have := hs.length_le; rw [List.length_range] at this; omega) (k ls H2 hs g)⟩
theorem r_joinE {D : Ends} {tw : TE} {r : Addr} {n m : Nat} (ra : RowAt K H r) (h : ∀ H1, Go K r H H1 → ∀ Q : VK, (∀ p H2 (ls : List Nat), Go K r H1 H2 → H2 p = some (.lst (ls.map fun a => V.str (sg a))) → 1 ≤ ls.length → ls.length ≤ m → (∀ x ∈ ls, x < n) → Q (.ref p) H2) → tw σ H1 Q) (hm : m ≤ 1000)
    (k : ∀ (ls : List Nat) H1, 1 ≤ ls.length → ls.length ≤ m → (∀ x ∈ ls, x < n) → Go K r H H1 → D.rt (.str (wS ls)) H1) :
    tRet (tM1 (fun x xs H Q => ∃ a p, ∃ ys : List Str, x = .str a ∧ xs = [.ref p] ∧ (SqL K H p (ys.map V.str) ∨ SqT K H p (ys.map V.str)) ∧ (ys.map (·.length)).sum + ys.length * a.length ≤ 16777216 ∧ Q (.str (Txt.join a ys)) H) (tC (.str "")) tw) D σ H :=
  ⟨⟨_, rfl⟩, h H (Go.refl ra) _ fun p H2 ls g hp h1 h2 h3 => ev_joinD hp (by omega) (k ls H2 h1 h2 h3 g)⟩
theorem etr_eq0 {r : Addr} {ta : TE} {m : Nat} (h : EvR K r ta σ H fun v => ∃ x : Nat, x < m ∧ v = .int (x : Nat)) : EvTR K r (tTest (tOp rEq ta (tC (.int 0)))) σ H fun _ => True := etr_eq h fun v ⟨x, _, e⟩ => by rw [e]; rfl
theorem ok_l_drawn_kind {f fT : Addr} {fd fdT : FuncData} (D : Df K mg "_law_drawn_kind" s_l_drawn_kind ["_law_row", "_law_company_here"] f fd) (B : Bt mg)
    (DT : Df K mg "_law_taken" s_l_taken ["_law_row", "_law_many"] fT fdT) (GT : FnOk P w K mg base CX0 1 fT fdT ["_law_row", "_law_many"] (spTaken K)) : FnOk P w K mg base CX0 2 f fd ["_law_row", "_law_company_here"] (spDrawn K) := by
  refine D.F.ok sc_l_drawn_kind (fun vs H Q E h => ?_) (fun cdv A outer s H vs Q E hr h => ?_)
  · obtain ⟨r, c, n, ps, rfl, _⟩ := h
    rfl
  · obtain ⟨r, c, n, ps, rfl, ra, co, hc, k⟩ := h
    have nd := sc_l_drawn_kind.nd
    refine ⟨_, (pss_cons (ps_set (i := 2) nd rfl (Or.inl rfl) (pe_join pe_str (pe_lc (own := [("_law_sign", 3)]) (tt := _) rfl nd (pi_str (pe_slice sl_str pe_str po_none (po_some (pe_ix ix_tup (pv 1) pe_int (fun _ _ => rfl))))) (blkOk_by (N := ["_law_row", "_law_company_here", "_law_letters", "_law_sign"]) (sc := (defScope s_l_drawn_kind)) (by decide +kernel)) (fun _ _ _ _ _ => (pg_name (i := 3) nd rfl (Or.inl rfl))) (fun _ _ _ _ _ => pts_one (pt_cmpR op_eq (pcall DT GT hr (pa_cons (pv 0) (pa_cons pe_int pa_nil))) pe_int (nomark _)))
        (fun _ _ _ _ _ => (pv 3)))))
      (pss_one (ps_ret (pe_tup (pa_cons (pv 2) (pa_cons (pcall DT GT hr (pa_cons (pv 0) (pa_cons pe_int pa_nil))) pa_nil)))))), ?_⟩
    have h8 := co.hi
    refine q_joinD (n := n) ra ?_ (by omega) fun ls H1 hs g => ?_
    · exact evr_lcT (K := K) (r := r) (List.range n) (fun a => .str (sg a)) (fun a => .str (sg a)) (wk_str fun H1 g => ev_alphaN ev_c (ev_co0 (ev_var rfl) (hc.mono (g.tu ra))) h8) (by rw [List.length_range]; exact Nat.le_trans h8 (by decide)) (fun _ => rfl) (fun a _ => etr_eq0 (m := 2) (evr_taken (fun H2 g2 => ev_var rfl) (fun H2 g2 => ev_c) (by omega) (by omega))) (fun a _ H1 g1 => ev_var rfl)
    · have t2 := evr_taken (K := K) (r := r) (H := H1) (σ := [some (.ref r), some (.ref c), some (.str (wS ls)), none]) (tr := tVar 0) (tm := tC (.int 2)) (m := 2) (fun H1 g => ev_var rfl) (fun H1 g => ev_c) (by omega) (by omega)
      refine ⟨_, rfl, t2 H1 (Go.refl g.2) _ fun v H2 g2 hv => ?_⟩
      obtain ⟨x, hx, rfl⟩ := hv
      refine ⟨show 2 ≤ sizeLine by decide, fun q hq => ?_⟩
      have asc : ls.Pairwise (· < ·) := List.Pairwise.sublist hs List.pairwise_lt_range
      exact k q ls x _ ⟨asc, fun a ha => List.mem_range.mp (hs.subset ha), by omega⟩ ((g.trans g2).new hq) upd_same
theorem ok_l_word {f fT : Addr} {fd fdT : FuncData} (D : Df K mg "_law_word" s_l_word ["_law_row", "_law_company_here", "_law_most"] f fd) (B : Bt mg)
    (DT : Df K mg "_law_taken" s_l_taken ["_law_row", "_law_many"] fT fdT) (GT : FnOk P w K mg base CX0 1 fT fdT ["_law_row", "_law_many"] (spTaken K)) : FnOk P w K mg base CX0 2 f fd ["_law_row", "_law_company_here", "_law_most"] (spWord K) := by
  refine D.F.ok sc_l_word (fun vs H Q E h => ?_) (fun cdv A outer s H vs Q E hr h => ?_)
  · obtain ⟨r, c, n, ps, m, rfl, _⟩ := h
    rfl
  · obtain ⟨r, c, n, ps, m, rfl, ra, co, hc, hm1, hm2, k⟩ := h
    have nd := sc_l_word.nd
    refine ⟨_, (pss_one (ps_ret (pe_join pe_str (pe_lc (own := [("_law_at", 3)]) (tt := tYes) rfl nd (pi_range1 rfl B.range (pa_cons (pe_op op_add pe_int (pcall DT GT hr (pa_cons (pv 0) (pa_cons (pv 2) pa_nil)))) pa_nil)) (blkOk_by (N := ["_law_row", "_law_company_here", "_law_most", "_law_at"]) (sc := (defScope s_l_word)) (by decide +kernel)) (fun _ _ _ _ _ => (pg_name (i := 3) nd rfl (Or.inl rfl))) (fun _ _ _ _ _ => pts_nil)
        (fun _ _ _ _ _ => (pe_ix (r := rIxS) ix_str pe_str (pcall DT GT hr (pa_cons (pv 0) (pa_cons (pe_ix (r := rIxT K) ix_tup (pv 1) pe_int (fun _ _ => rfl)) pa_nil))) (fun _ _ => rfl))))))), ?_⟩
    have h8 := co.hi
    have h2 := co.lo
    refine r_joinE (n := n) (m := m) ra ?_ (by omega) fun ls H1 l1 l2 l3 g => k ls H1 l3 l1 l2 g
    intro H1 g1 Q' q'
    refine evr_lcE (K := K) (r := r) (α := Nat) (H := H) (Pd := fun v => ∃ x : Nat, x < n ∧ v = .str (sg x)) (fun as => 1 ≤ as.length ∧ as.length ≤ m) (fun i => .int ((i : Nat) : Int)) ?_ (fun as h => Nat.le_trans h.2 (Nat.le_trans hm2 (by decide))) (fun _ => rfl) ?_ H1 g1 Q' fun p H2 ys as hC g2 hp hlen hall hne => ?_
    · intro H2 g2 R q
      refine evr_taken (K := K) (r := r) (H := H2) (σ := start ["_law_row","_law_company_here","_law_most","_law_at"] [.ref r, .ref c, .int (m : Nat)]) (tr := tVar 0) (tm := tVar 2) (m := m) (fun H1 g => ev_var rfl) (fun H1 g => ev_var rfl) (by omega) (by omega) H2 (Go.refl g2.2) _ fun v H3 g3 hv => ?_
      obtain ⟨x, hx, rfl⟩ := hv
      refine ⟨1, x, rfl, rfl, ((1 : Int) + (x : Int)), rfl, by omega, by omega, q _ _ (List.range (1 + x)) ⟨by rw [List.length_range]; omega, by rw [List.length_range]; omega⟩ g3 ?_⟩
      rw [← vInts_nat, show ((1 : Int) + (x : Int)).toNat = 1 + x by omega]
      exact walk_vInts
    · intro a H2 g2 Q q
      refine ev_c (v := .str "abcdefgh") H2 (Ex.refl _) _ fun H3 e3 => ?_
      refine evr_taken (K := K) (r := r) (H := H) (σ := [some (.ref r), some (.ref c), some (.int (m : Nat)), some (.int ((a : Nat) : Int))]) (tr := tVar 0) (tm := tOp (rIxT K) (tVar 1) (tC (.int 0))) (m := n) (fun H1 g => ev_var rfl) (fun H1 g => ev_co0 (ev_var rfl) (hc.mono (g.tu ra))) (by omega) (by omega) H3 (g2.then e3) _ fun v H4 g4 hv => ?_
      obtain ⟨x, hx, rfl⟩ := hv
      refine ⟨"abcdefgh", x, 97 + x, rfl, rfl, by decide, ?_, q _ H4 ((Go.ex g2.2 e3).trans g4) ⟨x, hx, rfl⟩⟩
      rw [alpha_is, wS_list, atI_nat (by rw [List.getElem?_map, List.getElem?_range (by omega)]; rfl)]
    · obtain ⟨ls, rfl, h1, h2⟩ := strs_of hall
      exact q' p H2 ls g2 hp (by rw [h1, hlen]; exact hC.1) (by rw [h1, hlen]; exact hC.2) h2
theorem ok_l_pick {f fT : Addr} {fd fdT : FuncData} (D : Df K mg "_law_pick" s_l_pick ["_law_row", "_law_things"] f fd) (B : Bt mg)
    (DT : Df K mg "_law_taken" s_l_taken ["_law_row", "_law_many"] fT fdT) (GT : FnOk P w K mg base CX0 1 fT fdT ["_law_row", "_law_many"] (spTaken K)) : FnOk P w K mg base CX0 2 f fd ["_law_row", "_law_things"] (spPick K) := by
  refine D.F.ok sc_l_pick (fun vs H Q E h => ?_) (fun cdv A outer s H vs Q E hr h => ?_)
  · obtain ⟨r, x, u, rfl, _⟩ := h
    rfl
  · obtain ⟨r, x, u, rfl, ra, hx, h1, h2, k⟩ := h
    have nd := sc_l_pick.nd
    refine ⟨_, (pss_one (ps_ret (pe_ix ix_seq (pv 1) (pcall DT GT hr (pa_cons (pv 0) (pa_cons (pe_callB call_len (by rfl) B.len (by decide +kernel) (pa_cons (pv 1) pa_nil)) pa_nil))) (fun _ _ => rfl)))), ?_⟩
    have hlen : ∀ H1, Go K r H H1 → LenV K x H1 u.length := fun H1 g => by
      rcases hx with rfl | ⟨l, rfl, hne, hl⟩
      · exact ⟨by rw [wS_len]; exact Nat.le_trans h2 (by decide), (wS_len u).symm⟩
      · exact .inl ⟨_, sq_of (g.1 _ _ hne hl), by rw [List.length_map]⟩
    have t1 := evr_taken (K := K) (r := r) (H := H) (σ := [some (.ref r), some x]) (tr := tVar 0) (tm := tCB (fun xs H Q => ∃ x n, xs = [x] ∧ LenV K x H n ∧ Q (.int (n : Nat)) H) (tCons (tVar 1) tNil)) (m := u.length) (fun H1 g => ev_var rfl) (fun H1 g => ev_cb (ea_cons (ev_var rfl) ea_nil) fun H2 e Q' q' => ⟨_, _, rfl, hlen H2 (g.then e), q' H2 (Ex.refl _)⟩) (by omega) (by omega)
    refine ⟨x, rfl, t1 H (Go.refl ra) _ fun v H2 g2 hv => ?_⟩
    obtain ⟨j, hj, rfl⟩ := hv
    have hm : u[j] ∈ u := List.getElem_mem hj
    rcases hx with rfl | ⟨l, rfl, hne, hl⟩
    · exact .inr (.inr ⟨wS u, j, 97 + u[j], rfl, rfl, by rw [wS_len]; exact Nat.le_trans h2 (by decide), by rw [wS_list, atI_nat (by rw [List.getElem?_map, List.getElem?_eq_getElem hj]; rfl)], k _ _ hm g2⟩)
    · exact .inl ⟨l, _, j, .str (sg u[j]), rfl, rfl, sq_of (g2.1 _ _ hne hl), atI_nat (by rw [List.getElem?_map, List.getElem?_eq_getElem hj]; rfl), k _ _ hm g2⟩
theorem ok_l_friend {f : Addr} {fd : FuncData} (D : Df K mg "_law_friend" s_l_friend ["_law_company_here", "_law_one", "_law_other"] f fd) (B : Bt mg) : FnOk P w K mg base CX0 1 f fd ["_law_company_here", "_law_one", "_law_other"] spFriend := by
  refine D.F.ok sc_l_friend (fun vs H Q E h => ?_) (fun cdv A outer s H vs Q E hr h => ?_)
  · obtain ⟨c, n, ps, a, b, rfl, _⟩ := h
    rfl
  · obtain ⟨c, n, ps, a, b, rfl, co, hc, ha, hb, k⟩ := h
    have nd := sc_l_friend.nd
    refine ⟨_, (pss_cons (ps_set (i := 3) nd rfl (Or.inl rfl) pe_str)
      (pss_one (ps_ret (pe_cmpR (op_inDT (units65 hr)) (pe_tup (pa_cons (pe_bm PySem.F.plainAttrs_str PySem.F.slot_str_index PySem.F.type_str_index mt_index1 (pv 3) (pa_cons (pe_callB (cr_min2S rfl) (by rfl) B.min (by decide +kernel) (pa_cons (pv 1) (pa_cons (pv 2) pa_nil))) pa_nil)) (pa_cons (pe_bm PySem.F.plainAttrs_str PySem.F.slot_str_index PySem.F.type_str_index mt_index1 (pv 3) (pa_cons (pe_callB (cr_max2S rfl) (by rfl) B.max (by decide +kernel) (pa_cons (pv 1) (pa_cons (pv 2) pa_nil))) pa_nil)) pa_nil))) (pe_ix ix_tup (pv 0) pe_int (fun _ _ => rfl)) rfl)))), ?_⟩
    obtain ⟨x, bs, hc1, hx, hp⟩ := hc
    refine q_asg ev_c fun H1 e1 => ?_
    have eu := eu_two (σ := [some (.ref c), some (.str (sg a)), some (.str (sg b)), some (.str "abcdefgh")]) (H := H1) (ev_indexS (K := K) (ta := tVar 3) (ev_var rfl) (ev_min2 (ta := tVar 1) (tb := tVar 2) (ev_var rfl) (ev_var rfl)) (by omega)) (ev_indexS (K := K) (ta := tVar 3) (ev_var rfl) (ev_max2S (ta := tVar 1) (tb := tVar 2) (ev_var rfl) (ev_var rfl)) (by omega))
    refine s_ret (v := .bl (fr ps a b)) (fun H2 e2 Q' q' => eu H2 e2 _ fun p H3 hp3 e3 h3 => ev_op (x := V.ref c) (ev_var rfl) (ev_c (v := .int 1)) (rv_ixP (j := 1) (H := H3) (((e1.trans e2).trans e3) _ _ hc1) rfl) H3 (Ex.refl _) _ fun H4 e4 => ?_) fun H2 e2 => k H2 (e1.trans e2)
    refine ⟨dP (min a b, max a b), ps.map dP, dp_pair (e4 _ _ h3), .tup (st_of ((((e1.trans e2).trans e3).trans e4) _ _ hx)) (dp_pairs (hp.mono (tu_ex (((e1.trans e2).trans e3).trans e4)))), prI_shaped _ _, dP_shaped ps, ?_⟩
    rw [any_pair]
    exact q' H4 (e3.trans e4)
end
end Kw

namespace Kw
open PySem PySem.Spec PyProof.Rows L2 Evl

def isS (v : V) : Prop := (∃ i, v = .int i) ∨ (∃ b, v = .bl b) ∨ v = .non ∨ ∃ z, v = .str z
def spAlike0 : Sp := fun vs H Q _ => ∃ v, vs = [v, v] ∧ isS v ∧ RetV (.bl true) H Q
def spAlike1 : Sp := fun vs H Q _ => ∃ (f d : Addr) (ns : List Int), vs = [.ref f, .ref d] ∧ H f = some (.lst (ns.map V.int)) ∧ H d = some (.lst (ns.map V.int)) ∧ ns.length ≤ 100 ∧ RetV (.bl true) H Q
def allw (n : Nat) : Nat → List (List Nat)
  | 0 => [[]]
  | t + 1 => (allw n t).flatMap fun u => (List.range n).map fun a => u ++ [a]
theorem allw_len (n t : Nat) : (allw n t).length = n ^ t := by
  induction t with
  | zero => rfl
  | succ t ih =>
    have : ∀ ws : List (List Nat), (ws.flatMap fun u => (List.range n).map fun a => u ++ [a]).length = ws.length * n := by
      intro ws
      induction ws with
      | nil => simp
      | cons u l ih2 => rw [List.flatMap_cons, List.length_append, ih2, List.length_map, List.length_range, List.length_cons, Nat.succ_mul]; omega
    show ((allw n t).flatMap fun u => (List.range n).map fun a => u ++ [a]).length = _
    rw [this, ih, Nat.pow_succ]
theorem allw_mem {n : Nat} : ∀ t, ∀ u ∈ allw n t, u.length = t ∧ ∀ x ∈ u, x < n
  | 0, u, hu => by
    obtain rfl : u = [] := by simpa [allw] using hu
    exact ⟨rfl, fun x hx => by cases hx⟩
  | t + 1, v, hv => by
    obtain ⟨u, hu, h⟩ := List.mem_flatMap.mp hv
    obtain ⟨a, ha, rfl⟩ := List.mem_map.mp h
    obtain ⟨h1, h2⟩ := allw_mem t u hu
    refine ⟨by rw [List.length_append, h1]; rfl, fun x hx => ?_⟩
    rcases List.mem_append.mp hx with hx | hx
    · exact h2 x hx
    · obtain rfl : x = a := by simpa using hx
      exact List.mem_range.mp ha
def spAllW : Sp := fun vs H Q _ => ∃ (c : Addr) (n : Nat) (ps : List PN) (t : Nat), vs = [.ref c, .int (t : Nat)] ∧ Co n ps ∧ CoAt H c n ps ∧ n ≤ 4 ∧ t ≤ 8 ∧ RetL (vW (allw n t)) H Q
section
variable {P : Program} {w : World} {K : PySem.W.Frag} {mg : Str → Option Value} {base : Heap} {σ : L2.St} {H : Hp}
theorem ev_isiTL {ta : TE} {x : V} {t : Value} {b : Bool} (ha : Ev ta σ H x) (ty : ∀ H', Ex H H' → TyX K H' x t) (hk : PySem.W.kitAny K t [.type "tuple", .type "list"] = some b) : Ev (tCB (rIsiT K) (tCons ta (tCons (tTup (tCons (tC (.ty "tuple")) (tCons (tC (.ty "list")) tNil))) tNil))) σ H (.bl b) := fun H1 e Q q =>
  ha H1 e _ fun H2 e2 => eu_two ev_c ev_c H2 (e.trans e2) _ fun p H3 hp e3 h3 => ⟨x, p, _, t, _, b, rfl, h3, .cons (.ty "tuple") (.cons (.ty "list") .nil), ty H3 ((e.trans e2).trans e3), hk, q H3 (e2.trans e3)⟩
theorem kit2 {T : String} {a b : Bool} (h1 : kitB T "tuple" = some a) (h2 : kitB T "list" = some b) : PySem.W.kitAny K (.type T) [.type "tuple", .type "list"] = some (a || b) := by
  refine kitAny_cons (kit_ty h1) (fun e => ?_) (fun e => by rw [e]; rfl)
  rw [e]
  refine kitAny_cons (r := false || b) (kit_ty h2) (fun e => by rw [e]; exact kitAny_nil) (fun e => by rw [e]; rfl)
theorem et_isN {ta : TE} {x : V} (h : Ev ta σ H x) : EvT (tTest (tOp (fun x y H Q => y = .non ∧ Q (.bl (decide (x = .non))) H) ta (tC .non))) σ H (decide (x = .non)) := et_test (ev_op h ev_c fun H1 e Q q => ⟨rfl, q H1 (Ex.refl _)⟩)
theorem ok_l_alike {f : Addr} {fd : FuncData} (D : Df K mg "_law_alike" s_l_alike ["_law_found", "_law_due"] f fd) (B : Bt mg) : FnOk P w K mg base CX0 1 f fd ["_law_found", "_law_due"] spAlike0 := by
  refine D.F.ok sc_l_alike (fun vs H Q E h => ?_) (fun cdv A outer s H vs Q E hr h => ?_)
  · obtain ⟨v, rfl, _⟩ := h
    rfl
  · obtain ⟨v, rfl, hs, k⟩ := h
    have nd := sc_l_alike.nd
    refine ⟨_, (pss_cons (ps_if (pt_val (pe_callB call_isiT (by rfl) B.isinstance boot_isinstance (pa_cons (pv 1) (pa_cons (pe_tup (pa_cons (pe_bltn (v := .ty "tuple") (by rfl) B.tuple (by decide +kernel) rfl) (pa_cons (pe_bltn (v := .ty "list") (by rfl) B.list (by decide +kernel) rfl) pa_nil))) pa_nil)))) (pss_cons ps_never (pss_cons ps_never (pss_one ps_never))) pss_nil)
      (pss_cons (ps_if (PW.pt (pw_or (pt_cmpR op_isN (pv 1) pe_non (nomark _)) (pw_or1 (pt_val (pe_callB call_isi (by rfl) B.isinstance boot_isinstance (pa_cons (pv 1) (pa_cons (pe_bltn (v := .ty "str") (by rfl) B.str (by decide +kernel) rfl) pa_nil))))))) (pss_one (ps_ret (pe_and (pe_cmpR op_eq (pv 0) (pv 1) (nomark _)) (pe_one (pe_cmpR op_eq (pe_callB call_isi (by rfl) B.isinstance boot_isinstance (pa_cons (pv 0) (pa_cons (pe_bltn (v := .ty "str") (by rfl) B.str (by decide +kernel) rfl) pa_nil))) (pe_callB call_isi (by rfl) B.isinstance boot_isinstance (pa_cons (pv 1) (pa_cons (pe_bltn (v := .ty "str") (by rfl) B.str (by decide +kernel) rfl) pa_nil))) (nomark _)))))) pss_nil)
      (pss_one (ps_ret (pe_and (pe_callB call_isi (by rfl) B.isinstance boot_isinstance (pa_cons (pv 0) (pa_cons (pe_bltn (v := .ty "int") (by rfl) B.int (by decide +kernel) rfl) pa_nil))) (pe_and (pe_cmpR op_eq (pe_callB call_isi (by rfl) B.isinstance boot_isinstance (pa_cons (pv 0) (pa_cons (pe_bltn (v := .ty "bool") (by rfl) B.bool (by decide +kernel) rfl) pa_nil))) (pe_callB call_isi (by rfl) B.isinstance boot_isinstance (pa_cons (pv 1) (pa_cons (pe_bltn (v := .ty "bool") (by rfl) B.bool (by decide +kernel) rfl) pa_nil))) (nomark _)) (pe_one (pe_cmpR op_eq (pv 0) (pv 1) (nomark _))))))))), ?_⟩
    rcases hs with ⟨i, rfl⟩ | ⟨b, rfl⟩ | rfl | ⟨z, rfl⟩
    · skip
      refine q_when (b := false) (et_B (ev_isiTL (t := .type "int") (ev_var rfl) (fun H' _ => .base (.int i)) (kit2 (a := false) (b := false) (by decide +kernel) (by decide +kernel)))) (fun z => Bool.noConfusion z) fun _ H1 e1 => ?_
      refine q_when (b := false) (et_or (a := false) (b := false) (et_is (et_isN (x := .int i) (ev_var rfl)) (decide_eq_false fun z => by cases z)) fun _ => et_B (ev_isi (t := .none) (ev_var rfl) (fun H' _ => .base (.int i)) (by decide +kernel))) (fun z => Bool.noConfusion z) fun _ H2 e2 => ?_
      exact s_ret (ev_is (ev_andV (a := true) (b := true) (ev_isi (t := .none) (ev_var rfl) (fun H' _ => .base (.int i)) (by decide +kernel)) fun _ => ev_is (ev_andV (a := true) (b := true) (ev_is (ev_op (ev_isi (t := .none) (b := false) (ev_var rfl) (fun H' _ => .base (.int i)) (by decide +kernel)) (ev_isi (t := .none) (b := false) (ev_var rfl) (fun H' _ => .base (.int i)) (by decide +kernel)) (rv_eq rfl)) (congrArg V.bl (decide_eq_true rfl))) fun _ => ev_is (ev_op (ev_var rfl) (ev_var rfl) (rv_eq rfl)) (congrArg V.bl (decide_eq_true rfl))) rfl) rfl) fun H3 e3 => k H3 ((e1.trans e2).trans e3)
    · skip
      refine q_when (b := false) (et_B (ev_isiTL (t := .type "bool") (ev_var rfl) (fun H' _ => .base (.bl b)) (kit2 (a := false) (b := false) (by decide +kernel) (by decide +kernel)))) (fun z => Bool.noConfusion z) fun _ H1 e1 => ?_
      refine q_when (b := false) (et_or (a := false) (b := false) (et_is (et_isN (x := .bl b) (ev_var rfl)) (decide_eq_false fun z => by cases z)) fun _ => et_B (ev_isi (t := .none) (ev_var rfl) (fun H' _ => .base (.bl b)) (by decide +kernel))) (fun z => Bool.noConfusion z) fun _ H2 e2 => ?_
      exact s_ret (ev_is (ev_andV (a := true) (b := true) (ev_isi (t := .none) (ev_var rfl) (fun H' _ => .base (.bl b)) (by decide +kernel)) fun _ => ev_is (ev_andV (a := true) (b := true) (ev_is (ev_op (ev_isi (t := .none) (b := true) (ev_var rfl) (fun H' _ => .base (.bl b)) (by decide +kernel)) (ev_isi (t := .none) (b := true) (ev_var rfl) (fun H' _ => .base (.bl b)) (by decide +kernel)) (rv_eq rfl)) (congrArg V.bl (decide_eq_true rfl))) fun _ => ev_is (ev_op (ev_var rfl) (ev_var rfl) (rv_eq rfl)) (congrArg V.bl (decide_eq_true rfl))) rfl) rfl) fun H3 e3 => k H3 ((e1.trans e2).trans e3)
    · skip
      refine q_when (b := false) (et_B (ev_isiTL (t := .type "NoneType") (ev_var rfl) (fun H' _ => .base .non) (kit2 (a := false) (b := false) (by decide +kernel) (by decide +kernel)))) (fun z => Bool.noConfusion z) fun _ H1 e1 => ?_
      refine q_when (b := true) (et_or (a := true) (b := true) (et_is (et_isN (x := .non) (ev_var rfl)) (decide_eq_true rfl)) (fun z => Bool.noConfusion z)) (fun _ H2 e2 => ?_) (fun z => Bool.noConfusion z)
      exact s_ret (ev_is (ev_andV (a := true) (b := true) (ev_is (ev_op (ev_var rfl) (ev_var rfl) (rv_eq rfl)) (congrArg V.bl (decide_eq_true rfl))) fun _ => ev_is (ev_op (ev_isi (t := .none) (b := false) (ev_var rfl) (fun H' _ => .base .non) (by decide +kernel)) (ev_isi (t := .none) (b := false) (ev_var rfl) (fun H' _ => .base .non) (by decide +kernel)) (rv_eq rfl)) (congrArg V.bl (decide_eq_true rfl))) rfl) fun H3 e3 => k H3 ((e1.trans e2).trans e3)
    · skip
      refine q_when (b := false) (et_B (ev_isiTL (t := .type "str") (ev_var rfl) (fun H' _ => .base (.str z)) (kit2 (a := false) (b := false) (by decide +kernel) (by decide +kernel)))) (fun z => Bool.noConfusion z) fun _ H1 e1 => ?_
      refine q_when (b := true) (et_or (a := false) (b := true) (et_is (et_isN (x := .str z) (ev_var rfl)) (decide_eq_false fun z => by cases z)) fun _ => et_B (ev_isi (t := .none) (ev_var rfl) (fun H' _ => .base (.str z)) (by decide +kernel))) (fun _ H2 e2 => ?_) (fun z => Bool.noConfusion z)
      exact s_ret (ev_is (ev_andV (a := true) (b := true) (ev_is (ev_op (ev_var rfl) (ev_var rfl) (rv_eq rfl)) (congrArg V.bl (decide_eq_true rfl))) fun _ => ev_is (ev_op (ev_isi (t := .none) (b := true) (ev_var rfl) (fun H' _ => .base (.str z)) (by decide +kernel)) (ev_isi (t := .none) (b := true) (ev_var rfl) (fun H' _ => .base (.str z)) (by decide +kernel)) (rv_eq rfl)) (congrArg V.bl (decide_eq_true rfl))) rfl) fun H3 e3 => k H3 ((e1.trans e2).trans e3)
theorem ok_l_alike1 {f fA : Addr} {fd fdA : FuncData} (D : Df K mg "_law_alike" s_l_alike ["_law_found", "_law_due"] f fd) (B : Bt mg)
    (DA : Df K mg "_law_alike" s_l_alike ["_law_found", "_law_due"] fA fdA) (GA : FnOk P w K mg base CX0 1 fA fdA ["_law_found", "_law_due"] spAlike0) : FnOk P w K mg base CX0 2 f fd ["_law_found", "_law_due"] spAlike1 := by
  refine D.F.ok sc_l_alike (fun vs H Q E h => ?_) (fun cdv A outer s H vs Q E hr h => ?_)
  · obtain ⟨f, d, ns, rfl, _⟩ := h
    rfl
  · obtain ⟨f, d, ns, rfl, hf, hd, hl, k⟩ := h
    have nd := sc_l_alike.nd
    refine ⟨_, (pss_cons (ps_if (pt_val (pe_callB call_isiT (by rfl) B.isinstance boot_isinstance (pa_cons (pv 1) (pa_cons (pe_tup (pa_cons (pe_bltn (v := .ty "tuple") (by rfl) B.tuple (by decide +kernel) rfl) (pa_cons (pe_bltn (v := .ty "list") (by rfl) B.list (by decide +kernel) rfl) pa_nil))) pa_nil)))) (pss_cons (ps_if (PW.pt (pw_or (pt_not (pt_val (pe_callB call_isiT (by rfl) B.isinstance boot_isinstance (pa_cons (pv 0) (pa_cons (pe_tup (pa_cons (pe_bltn (v := .ty "tuple") (by rfl) B.tuple (by decide +kernel) rfl) (pa_cons (pe_bltn (v := .ty "list") (by rfl) B.list (by decide +kernel) rfl) pa_nil))) pa_nil))))) (pw_or1 (pt_cmpR op_ne (pe_callB call_isi (by rfl) B.isinstance boot_isinstance (pa_cons (pv 0) (pa_cons (pe_bltn (v := .ty "list") (by rfl) B.list (by decide +kernel) rfl) pa_nil))) (pe_callB call_isi (by rfl) B.isinstance boot_isinstance (pa_cons (pv 1) (pa_cons (pe_bltn (v := .ty "list") (by rfl) B.list (by decide +kernel) rfl) pa_nil))) (nomark _))))) (pss_one (ps_ret pe_bl)) pss_nil)
      (pss_cons (ps_if (pt_cmpR op_ne (pe_callB call_len_seq (by rfl) B.len PySem.boot_len (pa_cons (pv 0) pa_nil)) (pe_callB call_len_seq (by rfl) B.len PySem.boot_len (pa_cons (pv 1) pa_nil)) (nomark _)) (pss_one (ps_ret pe_bl)) pss_nil)
      (pss_one (ps_ret (pe_cmpR (op_eqD hr.units) (pe_lc (own := [("_law_k", 2)]) (tt := _) rfl nd (pi_range1 rfl B.range (pa_cons (pe_callB call_len_seq (by rfl) B.len PySem.boot_len (pa_cons (pv 1) pa_nil)) pa_nil)) (blkOk_by (N := ["_law_found", "_law_due", "_law_k"]) (sc := (defScope s_l_alike)) (by decide +kernel)) (fun _ _ _ _ _ => (pg_name (i := 2) nd rfl (Or.inl rfl))) (fun _ _ _ _ _ => pts_one (pt_not (pt_val (pcall DA GA hr (pa_cons (pe_ix (r := rIxL K) ix_list (pv 0) (pv 2) (fun _ _ => rfl)) (pa_cons (pe_ix (r := rIxL K) ix_list (pv 1) (pv 2) (fun _ _ => rfl)) pa_nil))))))
        (fun _ _ _ _ _ => (pv 2))) (pe_lst pa_nil) (nomark _)))))) pss_nil)
      (pss_cons ps_never
      (pss_one ps_never))), ?_⟩
    have z : ns.length ≤ sizeLine := Nat.le_trans hl (by decide)
    refine q_if (b := true) (et_B (ev_isiTL (t := .type "list") (ev_var rfl) (fun H' e => .base (.lst (e _ _ hd))) (kit2 (a := false) (b := true) (by decide +kernel) (by decide +kernel)))) (fun _ H1 e1 => ?_) (fun z => Bool.noConfusion z)
    refine q_when (b := false) (et_or (a := false) (b := false) (et_not (a := true) (et_B (ev_isiTL (t := .type "list") (ev_var rfl) (fun H' e => .base (.lst ((e1.trans e) _ _ hf))) (kit2 (a := false) (b := true) (by decide +kernel) (by decide +kernel))))) fun _ => et_is (et_test (ev_op (ev_isi (t := .none) (b := true) (ev_var rfl) (fun H' e => .base (.lst ((e1.trans e) _ _ hf))) (by decide +kernel)) (ev_isi (t := .none) (b := true) (ev_var rfl) (fun H' e => .base (.lst ((e1.trans e) _ _ hd))) (by decide +kernel)) (rv_ne rfl))) rfl) (fun z => Bool.noConfusion z) fun _ H2 e2 => ?_
    have e12 := e1.trans e2
    refine q_when (b := false) (et_is (et_test (ev_op (ev_len (ev_var rfl) (sq_of (e12 _ _ hf))) (ev_len (ev_var rfl) (sq_of (e12 _ _ hd))) (rv_ne rfl))) (by simp)) (fun z => Bool.noConfusion z) fun _ H3 e3 => ?_
    have e13 := e12.trans e3
    have hlc : EvL (tLc (iRng1 (tCons (tCB (rLenS K) (tCons (tVar 1) tNil)) tNil)) (gName 2) (tNot (tB (tCall spAlike0 [] E0 (tCons (tOp (rIxL K) (tVar 0) (tVar 2)) (tCons (tOp (rIxL K) (tVar 1) (tVar 2)) tNil))))) (tVar 2) [2]) [some (.ref f), some (.ref d), none] H3 [] := by
      have := el_lc (K := K) (H := H3) (σ := [some (.ref f), some (.ref d), none]) (wi := iRng1 (tCons (tCB (rLenS K) (tCons (tVar 1) tNil)) tNil)) (j := 2) (vs := [2]) (te := tVar 2) (tt := tNot (tB (tCall spAlike0 [] E0 (tCons (tOp (rIxL K) (tVar 0) (tVar 2)) (tCons (tOp (rIxL K) (tVar 1) (tVar 2)) tNil))))) (List.range ns.length) (fun i => .int ((i : Nat) : Int)) (fun _ => false) (fun i => .int ((i : Nat) : Int)) ?_ (by rw [List.length_range]; exact z) (fun _ => rfl) (fun i hi H4 e4 => ?_) (fun i _ hp => Bool.noConfusion hp)
      · have e0 : (List.range ns.length).filter (fun _ => false) = [] := List.filter_eq_nil_iff.mpr fun _ _ z => Bool.noConfusion z
        rw [e0] at this
        exact this
      · have w := ei_rng1 (K := K) (H := H3) (σ := [some (.ref f), some (.ref d), none]) (ta := tCons (tCB (rLenS K) (tCons (tVar 1) tNil)) tNil) (n := ((ns.map V.int).length : Nat)) (ea_cons (ev_len (ev_var rfl) (sq_of (e13 _ _ hd))) ea_nil) (by rw [List.length_map]; omega) (by omega)
        rw [vInts_nat, Int.toNat_natCast, List.length_map] at w
        exact w
      · have hi := List.mem_range.mp hi
        have a1 : atI (ns.map V.int) ((i : Nat) : Int) = some (.int (ns[i]'hi)) := atI_nat (by rw [List.getElem?_map, List.getElem?_eq_getElem hi]; rfl)
        exact et_not (a := true) (et_B (ev_call (vs := [.int (ns[i]'hi), .int (ns[i]'hi)]) (ea_cons (ev_op (ev_var rfl) (ev_var rfl) (rv_ixL (sq_of ((e13.trans e4) _ _ hf)) a1)) (ea_cons (ev_op (ev_var rfl) (ev_var rfl) (rv_ixL (sq_of ((e13.trans e4) _ _ hd)) a1)) ea_nil)) fun H5 e5 Q' q' E' => ⟨_, rfl, .inl ⟨_, rfl⟩, q'⟩))
    exact s_ret (v := .bl true) (ev_opLL hlc (el_lst ea_nil (by decide)) fun p q H4 hp hq e4 H5 e5 Q' q' => ⟨.list [], .list [], .lst (sq_of (e5 _ _ hp)) .nil, .lst (sq_of (e5 _ _ hq)) .nil, rfl, rfl, by
      show Q' (.bl (PyData.eqv (.list []) (.list []))) H5
      rw [show PyData.eqv (.list []) (.list []) = true by simp [PyData.eqv, PyData.eqvAll]]
      exact q' H5 (Ex.refl _)⟩) fun H4 e4 => k H4 (e13.trans e4)
theorem ok_l_all_words {f : Addr} {fd : FuncData} (D : Df K mg "_law_all_words" s_l_all_words ["_law_company_here", "_law_length"] f fd) (B : Bt mg) : FnOk P w K mg base CX0 1 f fd ["_law_company_here", "_law_length"] spAllW := by
  refine D.F.ok sc_l_all_words (fun vs H Q E h => ?_) (fun cdv A outer s H vs Q E hr h => ?_)
  · obtain ⟨c, n, ps, t, rfl, _⟩ := h
    rfl
  · obtain ⟨c, n, ps, t, rfl, co, hc, hn, ht, k⟩ := h
    have nd := sc_l_all_words.nd
    refine ⟨_, (pss_cons (ps_set (i := 2) nd rfl (Or.inl rfl) (pe_lst (pa_cons pe_str pa_nil)))
      (pss_cons (ps_for PassesOwn.never rfl (pi_range1 rfl B.range (pa_cons (pv 1) pa_nil)) (pg_name (i := 3) nd rfl (Or.inl rfl)) (pss_cons (ps_set (i := 4) nd rfl (Or.inl rfl) (pe_lst pa_nil))
      (pss_cons (ps_for PassesOwn.never rfl (pi_list (pv 2)) (pg_name (i := 5) nd rfl (Or.inr rfl)) (pss_one (ps_set (i := 4) nd rfl (Or.inl rfl) (pe_op op_cat (pv 4) (pe_lc (own := [("_law_sign", 6)]) (tt := tYes) rfl nd (pi_str (pe_slice sl_str pe_str po_none (po_some (pe_ix ix_tup (pv 0) pe_int (fun _ _ => rfl))))) (blkOk_by (N := ["_law_company_here", "_law_length", "_law_rows", "_law_turn", "_law_longer", "_law_word_here", "_law_sign"]) (sc := (defScope s_l_all_words)) (by decide +kernel)) (fun _ _ _ _ _ => (pg_name (i := 6) nd rfl (Or.inl rfl))) (fun _ _ _ _ _ => pts_nil)
        (fun _ _ _ _ _ => (pe_op op_add_str (pv 5) (pv 6))))))))
      (pss_one (ps_set (i := 2) nd rfl (Or.inl rfl) (pv 4))))))
      (pss_one (ps_ret (pv 2))))), ?_⟩
    have h8 := co.hi
    have bound : ∀ i ≤ 8, n ^ i ≤ 65536 := fun i hi => Nat.le_trans (Nat.le_trans (Nat.pow_le_pow_left hn _) (Nat.pow_le_pow_right (by decide) hi)) (show 4 ^ 8 ≤ 65536 by decide)
    refine q_asgL (el_lst (ea_cons ev_c ea_nil) (by decide)) fun l0 H1 hl0 e1 hl1 => ?_
    refine q_forR1 (n := (t : Nat)) (ea_cons (ev_var rfl) ea_nil) (by omega) (fun i σ' H' => ∃ p x3 x4 x5, σ' = [some (.ref c), some (.int (t : Nat)), some (.ref p), x3, x4, x5, none] ∧ H p = none ∧ Ex H H' ∧ H' p = some (.lst (vW (allw n i)))) (fun H2 e2 => ⟨_, _, _, _, rfl, hl0, e1.trans e2, e2 _ _ hl1⟩) ?_ ?_
    · rintro i σ' H2 hi ⟨p, x3, x4, x5, rfl, hp, xx, hl⟩
      refine q_asgL (el_lst ea_nil (by decide)) fun L H3 hL e3 hL3 => ?_
      refine q_forLn (a := p) (xs := vW (allw n i)) (ev_var rfl) (sq_of (e3 _ _ hl)) (fun j σ' H' => ∃ q x5, σ' = [some (.ref c), some (.int (t : Nat)), some (.ref p), some (.int (i : Nat)), some (.ref q), x5, none] ∧ H q = none ∧ Ex H3 H' ∧ H' q = some (.lst (vW (((allw n i).take j).flatMap fun u => (List.range n).map fun a => u ++ [a])))) (fun H4 e4 => ⟨_, _, rfl, fresh_back xx hL, e4, e4 _ _ hL3⟩) (fun j σ' H' _ pp => by obtain ⟨_, _, _, _, e, _⟩ := pp; exact sq_of (e _ _ (e3 _ _ hl))) ?_ ?_
      · rintro j x σ' H4 hx ⟨q, x5, rfl, hq, ee, hl4⟩
        obtain ⟨u, hu⟩ : ∃ u, (allw n i)[j]? = some u := by
          cases h : (allw n i)[j]? with
          | none => rw [List.getElem?_map, h] at hx; cases hx
          | some u => exact ⟨u, rfl⟩
        rw [List.getElem?_map, hu] at hx
        obtain rfl := Option.some.inj hx
        have hum := allw_mem i u (List.mem_of_getElem? hu)
        have hjl := (List.getElem?_eq_some_iff.mp hu).1
        rw [allw_len] at hjl
        refine s_asgL (el_cat (ev_var rfl) hl4 (el_lcA (K := K) (List.range n) (fun a => .str (sg a)) (fun a => .str (wS (u ++ [a]))) (ei_wS (ev_alphaN ev_c (ev_co0 (ev_var rfl) (hc.mono (tu_ex ((xx.trans e3).trans ee)))) h8)) (by rw [List.length_range]; exact Nat.le_trans h8 (by decide)) (fun _ => rfl) fun a ha H5 e5 => ev_catS (u := u) (v := [a]) (ev_var rfl) (ev_var rfl) (by rw [hum.1]; exact Nat.le_trans (show i + 1 ≤ 100 by omega) (by decide))) ?_) fun q2 H5 hq2 e5 hl5 => ⟨q2, _, rfl, fresh_back ((xx.trans e3).trans ee) hq2, ee.trans e5, ?_⟩
        · rw [List.length_map, List.length_map, List.length_range]
          have : ∀ ws : List (List Nat), (ws.flatMap fun u => (List.range n).map fun a => u ++ [a]).length = ws.length * n := by
            intro ws
            induction ws with
            | nil => simp
            | cons u l ih2 => rw [List.flatMap_cons, List.length_append, ih2, List.length_map, List.length_range, List.length_cons, Nat.succ_mul]; omega
          rw [this, List.length_take, allw_len]
          have b1 := bound i (by omega)
          have b2 : min j (n ^ i) * n ≤ 65536 * 4 := Nat.mul_le_mul (by omega) hn
          exact Nat.le_trans (show _ ≤ 65536 * 4 + 8 by omega) (by decide)
        · rw [hl5, take_snoc hu, List.flatMap_append]
          simp
      · rintro σ' H4 ⟨q, x5, rfl, hq, ee, hl4⟩
        rw [List.length_map, List.take_length] at hl4
        exact s_asg (ev_var rfl) fun H5 e5 => ⟨q, _, _, _, rfl, hq, ((xx.trans e3).trans ee).trans e5, e5 _ _ hl4⟩
    · rintro σ' H2 ⟨p, x3, x4, x5, rfl, hp, xx, hl⟩
      exact s_ret (ev_var rfl) fun H3 e3 => k _ _ hp (xx.trans e3) (e3 _ _ hl)
end
end Kw

namespace Kw
open PySem PySem.Spec PyProof.Rows L2 Evl

def oddL (n : Nat) (u : List Nat) : List Nat := (List.range n).filter fun a => decide (u.count a % 2 = 1)
def halves (n : Nat) (u : List Nat) : Nat := ((List.range n).map fun a => u.count a / 2).sum
def crossAt (ps : List PN) (u : List Nat) (i : Nat) : Nat := ((u.drop (i + 1)).filter fun x => decide (x < u.getD i 0) && fr ps x (u.getD i 0)).length
def cross (ps : List PN) (u : List Nat) : Nat := ((List.range u.length).map (crossAt ps u)).sum
def cntK (n : Nat) (ps : List PN) (u : List Nat) : Nat := halves n u + cross ps u
def spKindL : Sp := fun vs H Q _ => ∃ (c : Addr) (n : Nat) (ps : List PN) (u : List Nat), vs = [.ref c, .str (wS u)] ∧ Co n ps ∧ CoAt H c n ps ∧ (∀ x ∈ u, x < n) ∧ u.length ≤ 100 ∧ ∀ k H2, H k = none → Ex H H2 → KiAt H2 k (oddL n u) (cntK n ps u % 2) → Q (.ref k) H2
theorem fdiv2 (x : Nat) : ((x : Nat) : Int).fdiv 2 = ((x / 2 : Nat) : Int) := by
  rw [Int.fdiv_eq_ediv_of_nonneg _ (by decide)]
  omega
theorem cutS_drop {u : List Nat} {i : Nat} (h : i ≤ u.length) : cutS (wS u) (some (i : Nat)) none = wS (u.drop i) := by
  unfold cutS
  have h1 : HT.sIx (wS u).length 0 (some ((i : Nat) : Int)) = i := by rw [HT.sIx_nat, wS_len]; omega
  have h2 : HT.sIx (wS u).length (wS u).length none = u.length := by rw [HT.sIx_none, wS_len]
  rw [h1, h2, wS_list, ← List.map_drop, List.take_of_length_le (by rw [List.length_map, List.length_drop]; omega)]
  rfl
theorem sum_snoc {i : Nat} {f : Nat → Nat} : ((List.range (i + 1)).map f).sum = ((List.range i).map f).sum + f i := by
  rw [List.range_succ, List.map_append, List.sum_append]
  simp
section
variable {P : Program} {w : World} {K : PySem.W.Frag} {mg : Str → Option Value} {base : Heap} {σ : L2.St} {H : Hp}
theorem ev_countS {to te : TE} {u : List Nat} {a : Nat} (ho : Ev to σ H (.str (wS u))) (h : Ev te σ H (.str (sg a))) : Ev (tBM K "str" (fun x xs H Q => ∃ a b, x = V.str a ∧ xs = [V.str b] ∧ Q (.int (Txt.count a b)) H) to (tCons te tNil)) σ H (.int ((u.count a : Nat) : Int)) := fun H1 e Q q =>
  ho H1 e _ fun H2 e2 => ⟨rfl, h H2 (e.trans e2) _ fun H3 e3 => ⟨wS u, sg a, rfl, rfl, by rw [count_wS]; exact q H3 (e2.trans e3)⟩⟩
theorem ev_half {te : TE} {x : Nat} (h : Ev te σ H (.int (x : Nat))) : Ev (tOp (rI CDivN fun i j => .int (i.fdiv j)) te (tC (.int 2))) σ H (.int ((x / 2 : Nat) : Int)) := by
  rw [← fdiv2]
  exact ev_op h ev_c (rv_fdiv (by decide) (by decide))
theorem ev_rest {te tf : TE} {x : Nat} (h : Ev te σ H (.int (x : Nat))) (h2 : Ev tf σ H (.int (x : Nat))) : Ev (tOp (rI0 fun i j => .int (i - j)) te (tOp (rI CMul fun i j => .int (i * j)) (tOp (rI CDivN fun i j => .int (i.fdiv j)) tf (tC (.int 2))) (tC (.int 2)))) σ H (.int ((x % 2 : Nat) : Int)) :=
  ev_is (ev_op h (ev_op (ev_half h2) ev_c (rv_mul (by decide))) rv_I0) (congrArg V.int (show ((x : Nat) : Int) - ((x / 2 : Nat) : Int) * 2 = ((x % 2 : Nat) : Int) by omega))
theorem ev_ltS {ta tb : TE} {a b : Nat} (ha : Ev ta σ H (.str (sg a))) (hb : Ev tb σ H (.str (sg b))) : Ev (tOp (fun x y H Q => ∃ i j, x = V.str i ∧ y = V.str j ∧ Q (.bl (decide (i.cps.toList < j.cps.toList))) H) ta tb) σ H (.bl (decide (a < b))) := ev_op ha hb fun H1 e Q q => ⟨sg a, sg b, rfl, rfl, by
  rw [decide_eq_decide.mpr (sg_lt_iff (a := a) (b := b))]
  exact q H1 (Ex.refl _)⟩
theorem ev_frS {ta : TA} {c : Addr} {n : Nat} {ps : List PN} {a b : Nat} (h : EvA ta σ H [.ref c, .str (sg a), .str (sg b)]) (co : Co n ps) (hc : CoAt H c n ps) (ha : a < 8) (hb : b < 8) : Ev (tCall spFriend [] E0 ta) σ H (.bl (fr ps a b)) := ev_call (vs := [.ref c, .str (sg a), .str (sg b)]) h fun H1 e1 Q' q' E' => ⟨c, n, ps, a, b, rfl, co, hc.mono (tu_ex e1), ha, hb, q'⟩
theorem q_twoN {D : Ends} {tz : TS} {te : TE} {i j : Nat} {x y : V} (h : EvU te σ H [x, y]) (k : ∀ H1, Ex H H1 → tz D ((σ.set i (some x)).set j (some y)) H1) : tSeq (tAsg te (gTup K 2 (gCons (gName i) (gCons (gName j) gNil)))) tz D σ H := h H (Ex.refl H) _ fun p H1 _ e h1 => g_two h1 (k H1 e)
theorem q_forS {D : Ends} {tu tz : TS} {te : TE} {j : Nat} {u : List Nat} (h : Ev te σ H (.str (wS u))) (Pv : Nat → L2.St → Hp → Prop) (h0 : ∀ H1, Ex H H1 → Pv 0 σ H1) (hs : ∀ i a σ' H', u[i]? = some a → Pv i σ' H' → tu { D with nx := Pv (i + 1), ct := Pv (i + 1), bk := tz D } (σ'.set j (some (.str (sg a)))) H') (hd : ∀ σ' H', Pv u.length σ' H' → tz D σ' H') : tSeq (tFor (iStr te) (gName j) tu) tz D σ H := h H (Ex.refl H) _ fun H1 e => by
  have W : Walk (Its (wS u)) u.length (fun _ => True) (YAt (u.map fun a => V.str (sg a))) := by
    have := walk_signs (z := wS u)
    rw [signs_wS, List.length_map] at this
    exact this
  refine ⟨wS u, rfl, for_it (D := { D with nx := tz D }) W Pv (h0 H1 e) (fun _ _ _ _ _ => trivial) (fun i x σ' H' H'' hi p y => ?_) hd⟩
  obtain ⟨rfl, hx⟩ := y
  rw [List.getElem?_map, List.getElem?_eq_getElem hi] at hx
  obtain rfl := Option.some.inj hx
  exact hs i _ σ' H'' (List.getElem?_eq_getElem hi) p
theorem ok_l_kind {f fF : Addr} {fd fdF : FuncData} (D : Df K mg "_law_kind" s_l_kind ["_law_company_here", "_law_word_here"] f fd) (B : Bt mg)
    (DF : Df K mg "_law_friend" s_l_friend ["_law_company_here", "_law_one", "_law_other"] fF fdF) (GF : FnOk P w K mg base CX0 1 fF fdF ["_law_company_here", "_law_one", "_law_other"] spFriend) : FnOk P w K mg base CX0 2 f fd ["_law_company_here", "_law_word_here"] spKindL := by
  refine D.F.ok sc_l_kind (fun vs H Q E h => ?_) (fun cdv A outer s H vs Q E hr h => ?_)
  · obtain ⟨c, n, ps, u, rfl, _⟩ := h
    rfl
  · obtain ⟨c, n, ps, u, rfl, co, hc, hu, hl, k⟩ := h
    have nd := sc_l_kind.nd
    refine ⟨_, (pss_cons (ps_asg (pe_tup (pa_cons pe_int (pa_cons pe_str pa_nil))) (pg_tup (by rfl) (pgs_cons (pg_name (i := 2) nd rfl (Or.inl rfl)) (pgs_cons (pg_name (i := 3) nd rfl (Or.inl rfl)) pgs_nil))))
      (pss_cons (ps_for PassesOwn.never rfl (pi_str (pe_slice sl_str pe_str po_none (po_some (pe_ix ix_tup (pv 0) pe_int (fun _ _ => rfl))))) (pg_name (i := 4) nd rfl (Or.inl rfl)) (pss_cons (ps_set (i := 2) nd rfl (Or.inl rfl) (pe_op op_add (pv 2) (pe_op op_fdivN (pe_bm PySem.F.plainAttrs_str PySem.F.slot_str_count PySem.F.type_str_count mt_count (pv 1) (pa_cons (pv 4) pa_nil)) pe_int)))
      (pss_one (ps_set (i := 3) nd rfl (Or.inl rfl) (pe_op op_add_str (pv 3) (pe_ifExp (pt_cmpR op_eq (pe_op op_sub (pe_bm PySem.F.plainAttrs_str PySem.F.slot_str_count PySem.F.type_str_count mt_count (pv 1) (pa_cons (pv 4) pa_nil)) (pe_op op_mul (pe_op op_fdivN (pe_bm PySem.F.plainAttrs_str PySem.F.slot_str_count PySem.F.type_str_count mt_count (pv 1) (pa_cons (pv 4) pa_nil)) pe_int) pe_int)) pe_int (nomark _)) (pv 4) pe_str))))))
      (pss_cons (ps_for PassesOwn.never rfl (pi_range1 rfl B.range (pa_cons (pe_callB call_len_str (by rfl) B.len PySem.boot_len (pa_cons (pv 1) pa_nil)) pa_nil)) (pg_name (i := 5) nd rfl (Or.inr rfl)) (pss_one (ps_set (i := 2) nd rfl (Or.inl rfl) (pe_op op_add (pv 2) (pe_callB call_len_seq (by rfl) B.len PySem.boot_len (pa_cons (pe_lc (own := [("_law_one", 6)]) (tt := _) rfl nd (pi_str (pe_slice sl_str (pv 1) (po_some (pe_op op_add (pv 5) pe_int)) po_none)) (blkOk_by (N := ["_law_company_here", "_law_word_here", "_law_count", "_law_odd", "_law_sign", "_law_at", "_law_one"]) (sc := (defScope s_l_kind)) (by decide +kernel)) (fun _ _ _ _ _ => (pg_name (i := 6) nd rfl (Or.inl rfl))) (fun _ _ _ _ _ => pts_one (PW.pt (pw_and (pt_cmpR op_lt_str (pv 6) (pe_ix (r := rIxS) ix_str (pv 1) (pv 5) (fun _ _ => rfl)) (nomark _)) (pw_and1 (pt_val (pcall DF GF hr (pa_cons (pv 0) (pa_cons (pv 6) (pa_cons (pe_ix (r := rIxS) ix_str (pv 1) (pv 5) (fun _ _ => rfl)) pa_nil)))))))))
        (fun _ _ _ _ _ => (pv 6))) pa_nil))))))
      (pss_one (ps_ret (pe_tup (pa_cons (pv 3) (pa_cons (pe_op op_sub (pv 2) (pe_op op_mul (pe_op op_fdivN (pv 2) pe_int) pe_int)) pa_nil)))))))), ?_⟩
    have h8 := co.hi
    have z : u.length ≤ sizeLine := Nat.le_trans hl (by decide)
    refine q_twoN (eu_two ev_c ev_c) fun H0 e0 => ?_
    show tSeq _ _ _ ([some (.ref c), some (.str (wS u)), some (.int ((0 : Nat) : Int)), some (.str (wS [])), none, none, none] : L2.St) H0
    replace hc := hc.mono (tu_ex e0)
    replace k : ∀ k H2, H0 k = none → Ex H0 H2 → KiAt H2 k (oddL n u) (cntK n ps u % 2) → Q (.ref k) H2 := fun a H2 h1 h2 h3 => k a H2 (fresh_back e0 h1) (e0.trans h2) h3
    clear e0
    revert hc k
    generalize H0 = H
    intro hc k
    refine q_forS (u := List.range n) (ev_alphaN ev_c (ev_co0 (ev_var rfl) hc) h8) (fun i σ' H' => ∃ x4, σ' = [some (.ref c), some (.str (wS u)), some (.int ((((List.range i).map fun a => u.count a / 2).sum : Nat) : Int)), some (.str (wS ((List.range i).filter fun a => decide (u.count a % 2 = 1)))), x4, none, none] ∧ Ex H H') (fun H1 e1 => ⟨_, rfl, e1⟩) ?_ ?_
    · rintro i a σ' H1 ha ⟨x4, rfl, e1⟩
      have hi : i < n := by
        have := (List.getElem?_eq_some_iff.mp ha).1
        rwa [List.length_range] at this
      obtain rfl : i = a := by rw [List.getElem?_range hi] at ha; exact Option.some.inj ha
      refine q_asg (ev_is (ev_op (ev_var rfl) (ev_half (ev_countS (ev_var rfl) (ev_var rfl))) rv_I0) (congrArg V.int (show ((((List.range i).map fun a => u.count a / 2).sum : Nat) : Int) + ((u.count i / 2 : Nat) : Int) = ((((List.range (i + 1)).map fun a => u.count a / 2).sum : Nat) : Int) by rw [sum_snoc]; omega))) fun H2 e2 => ?_
      refine s_asg (v := .str (wS ((List.range (i + 1)).filter fun a => decide (u.count a % 2 = 1)))) ?_ fun H3 e3 => ⟨_, rfl, (e1.trans e2).trans e3⟩
      have hlen : ((List.range i).filter fun a => decide (u.count a % 2 = 1)).length ≤ 8 := Nat.le_trans (List.length_filter_le _ _) (by rw [List.length_range]; omega)
      refine ev_is (ev_catS (u := (List.range i).filter fun a => decide (u.count a % 2 = 1)) (v := if u.count i % 2 = 1 then [i] else []) (ev_var rfl) (ev_if (b := decide (u.count i % 2 = 1)) (et_is (et_test (ev_op (ev_rest (ev_countS (ev_var rfl) (ev_var rfl)) (ev_countS (ev_var rfl) (ev_var rfl))) ev_c (rv_eq rfl))) ?_) (fun h => ?_) (fun h => ?_)) ?_) ?_
      · exact decide_eq_decide.mpr ⟨fun h => by have := V.int.inj h; omega, fun h => by rw [h]; rfl⟩
      · rw [if_pos (of_decide_eq_true h)]
        exact ev_var rfl
      · rw [if_neg (of_decide_eq_false h)]
        exact ev_c
      · exact Nat.le_trans (show _ ≤ 9 by split <;> simp <;> omega) (by decide)
      · rw [List.range_succ, List.filter_append, List.filter_cons]
        by_cases h : u.count i % 2 = 1
        · rw [if_pos h, if_pos (by simpa using h)]; rfl
        · rw [if_neg h, if_neg (by simpa using h)]; rfl
    · rintro σ' H1 ⟨x4, rfl, e1⟩
      rw [List.length_range]
      refine q_forR1 (n := (u.length : Nat)) (ea_cons (ev_lenS (ev_var rfl) z) ea_nil) (by omega) (fun i σ' H' => ∃ x5, σ' = [some (.ref c), some (.str (wS u)), some (.int ((halves n u + ((List.range i).map (crossAt ps u)).sum : Nat) : Int)), some (.str (wS (oddL n u))), x4, x5, none] ∧ Ex H H') (fun H2 e2 => ⟨_, rfl, e1.trans e2⟩) ?_ ?_
      · rintro i σ' H2 hi ⟨x5, rfl, e2⟩
        have hi : i < u.length := by omega
        have hui : u[i]? = some (u.getD i 0) := by rw [List.getD_eq_getElem?_getD, List.getElem?_eq_getElem hi]; rfl
        have hx8 : ∀ x ∈ u, x < 8 := fun x hx => Nat.lt_of_lt_of_le (hu x hx) h8
        have hg8 : u.getD i 0 < 8 := hx8 _ (List.mem_of_getElem? hui)
        refine s_asg (ev_is (ev_op (ev_var rfl) (ev_lenN (K := K) (xs := ((u.drop (i + 1)).filter fun x => decide (x < u.getD i 0) && fr ps x (u.getD i 0)).map fun x => .str (sg x)) (el_lc (K := K) (u.drop (i + 1)) (fun x => .str (sg x)) _ _ ?_ (by rw [List.length_drop]; omega) (fun _ => rfl) (fun x hx H3 e3 => ?_) (fun x _ _ H3 e3 => ev_var rfl))) rv_I0) (congrArg V.int ?_)) fun H3 e3 => ⟨_, rfl, e2.trans e3⟩
        · refine ei_wS (ev_is (ev_slS (ev_var rfl) (eo_some (i := ((i + 1 : Nat) : Int)) (ev_op (ev_var rfl) ev_c rv_I0)) eo_none (by rw [wS_len]; exact z)) (congrArg V.str (cutS_drop (by omega))))
        · have hw : Ev (tOp rIxS (tVar 1) (tVar 5)) ([some (.ref c), some (.str (wS u)), some (.int ((halves n u + ((List.range i).map (crossAt ps u)).sum : Nat) : Int)), some (.str (wS (oddL n u))), x4, some (.int (i : Nat)), some (.str (sg x))] : L2.St) H3 (.str (sg (u.getD i 0))) := ev_wSat (ev_var rfl) (ev_var rfl) hui z
          exact et_and (et_test (ev_ltS (ev_var rfl) hw)) fun _ => et_B (ev_frS (ea_cons (ev_var rfl) (ea_cons (ev_var rfl) (ea_cons hw ea_nil))) co (hc.mono (tu_ex (e2.trans e3))) (hx8 x (List.mem_of_mem_drop hx)) hg8)
        · rw [List.length_map, sum_snoc]
          show ((halves n u + ((List.range i).map (crossAt ps u)).sum : Nat) : Int) + ((crossAt ps u i : Nat) : Int) = _
          omega
      · rintro σ' H2 ⟨x5, rfl, e2⟩
        exact s_retU (eu_two (ev_var rfl) (ev_rest (x := cntK n ps u) (ev_var rfl) (ev_var rfl))) fun p H3 hp e3 h3 => k p H3 (fresh_back e2 hp) (e2.trans e3) h3
end
end Kw

namespace Kw
open PySem PySem.Spec PyProof.Rows

/-! ### the tables' kinds are the law's -/
theorem sum_mod {l : List Nat} {f g : Nat → Nat} (h : ∀ x ∈ l, f x % 2 = g x % 2) : (l.map f).sum % 2 = (l.map g).sum % 2 := by
  induction l with
  | nil => rfl
  | cons x t ih =>
    have h1 := h x List.mem_cons_self
    have h2 := ih fun y hy => h y (List.mem_cons_of_mem _ hy)
    rw [List.map_cons, List.map_cons, List.sum_cons, List.sum_cons]
    omega
theorem odds_par : ∀ x < 256, (odds 8).getD x 0 = ((List.range 8).map fun i => (x.testBit i).toNat).sum % 2 := by decide +kernel
theorem sum_add {l : List Nat} {f g : Nat → Nat} : (l.map fun x => f x + g x).sum = (l.map f).sum + (l.map g).sum := by
  induction l with
  | nil => rfl
  | cons x t ih => rw [List.map_cons, List.map_cons, List.map_cons, List.sum_cons, List.sum_cons, List.sum_cons, ih]; omega
theorem sum_single {n a v : Nat} (h : a < n) : ((List.range n).map fun x => if x = a then v else 0).sum = v := by
  induction n with
  | zero => omega
  | succ n ih =>
    rw [sum_snoc]
    by_cases e : a = n
    · subst e
      rw [if_pos rfl]
      have : ((List.range a).map fun x => if x = a then v else 0).sum = 0 := by
        have : ∀ k ≤ a, ((List.range k).map fun x => if x = a then v else 0).sum = 0 := by
          intro k
          induction k with
          | zero => intro _; rfl
          | succ k ih2 => intro hk; rw [sum_snoc, ih2 (by omega), if_neg (by omega)]
        exact this a (Nat.le_refl _)
      omega
    · rw [ih (by omega), if_neg (by omega), Nat.add_zero]
theorem filter_counts {p : Nat → Bool} : ∀ (w : List Nat), (∀ x ∈ w, x < 8) → (w.filter p).length = ((List.range 8).map fun x => if p x then w.count x else 0).sum
  | [], _ => by
    show 0 = ((List.range 8).map fun x => if p x then 0 else 0).sum
    simp only [ite_self]
    rfl
  | y :: w, h => by
    have ih := filter_counts (p := p) w fun x hx => h x (List.mem_cons_of_mem _ hx)
    have hy := h y List.mem_cons_self
    have e : (fun x => if p x then (y :: w).count x else 0) = fun x => (if p x then w.count x else 0) + if x = y then (if p y then 1 else 0) else 0 := by
      funext x
      rw [List.count_cons]
      by_cases e : y = x
      · subst e
        simp only [beq_self_eq_true, if_true]
        split <;> rfl
      · have e2 : (y == x) = false := by simpa using e
        rw [e2, if_neg (fun z : x = y => e z.symm)]
        simp
    rw [e, sum_add, ← ih, sum_single hy, List.filter_cons]
    split
    · rw [List.length_cons]
    · rfl
theorem map_getD (w : List Nat) : (List.range w.length).map (fun i => w.getD i 0) = w := by
  refine List.ext_getElem (by simp) fun i h1 h2 => ?_
  simp [List.getD_eq_getElem?_getD, List.getElem?_eq_getElem h2]
theorem ones_len {p : Nat → Bool} (w : List Nat) : (w.map fun x => if p x then 1 else 0).sum = (w.filter p).length := by
  induction w with
  | nil => rfl
  | cons x t ih =>
    rw [List.map_cons, List.sum_cons, ih, List.filter_cons]
    split
    · rw [List.length_cons]; omega
    · omega
section
variable {n : Nat} {ps : List PN}
theorem cross_snoc (w : List Nat) (a : Nat) : cross ps (w ++ [a]) = cross ps w + (w.filter fun x => decide (a < x) && fr ps a x).length := by
  unfold cross
  rw [List.length_append]
  show ((List.range (w.length + 1)).map (crossAt ps (w ++ [a]))).sum = _
  rw [sum_snoc]
  have e0 : crossAt ps (w ++ [a]) w.length = 0 := by
    unfold crossAt
    rw [List.drop_of_length_le (by simp)]
    rfl
  rw [e0, Nat.add_zero, ← ones_len]
  have e1 : (List.range w.length).map (crossAt ps (w ++ [a])) = (List.range w.length).map fun i => crossAt ps w i + if decide (a < w.getD i 0) && fr ps a (w.getD i 0) then 1 else 0 := by
    refine List.map_congr_left fun i hi => ?_
    have hi := List.mem_range.mp hi
    unfold crossAt
    have g : (w ++ [a]).getD i 0 = w.getD i 0 := by
      rw [List.getD_eq_getElem?_getD, List.getD_eq_getElem?_getD, List.getElem?_append_left hi]
    rw [g, List.drop_append_of_le_length (by omega), List.filter_append, List.length_append, List.filter_cons]
    congr 1
    split <;> rfl
  rw [e1, sum_add]
  congr 1
  have : (List.range w.length).map (fun i => if decide (a < w.getD i 0) && fr ps a (w.getD i 0) then 1 else 0) = ((List.range w.length).map (fun i => w.getD i 0)).map fun x => if decide (a < x) && fr ps a x then 1 else 0 := by
    rw [List.map_map]
    rfl
  rw [this, map_getD]
theorem halves_snoc (w : List Nat) {a : Nat} (ha : a < n) : halves n (w ++ [a]) = halves n w + w.count a % 2 := by
  unfold halves
  have e : (List.range n).map (fun x => (w ++ [a]).count x / 2) = (List.range n).map fun x => w.count x / 2 + if x = a then w.count a % 2 else 0 := by
    refine List.map_congr_left fun x _ => ?_
    rw [List.count_append, List.count_cons, List.count_nil]
    by_cases e : x = a
    · subst e
      simp only [beq_self_eq_true, if_true]
      omega
    · have e2 : (a == x) = false := by simpa using fun z : a = x => e z.symm
      rw [e2, if_neg e]
      simp
  rw [e, sum_add, sum_single ha]
/-- which places the code's cover has -/
def cvb (ps : List PN) (a i : Nat) : Bool := decide (i = a) || (decide (a < i) && fr ps a i)
theorem cv_bit (co : Co n ps) (a i : Nat) : (cv ps a).testBit i = cvb ps a i := by
  unfold cv cvb
  rw [Nat.testBit_mul_two_pow, Nat.testBit_or, Nat.testBit_div_two_pow, fm_bit co]
  by_cases h : a ≤ i
  · rw [show i - a + a = i by omega, decide_eq_true h, Bool.true_and]
    by_cases e : i = a
    · subst e
      simp
    · rw [decide_eq_false e, decide_eq_true (show a < i by omega), Bool.true_and, Bool.false_or]
      have : Nat.testBit 1 (i - a) = false := by
        cases h : Nat.testBit 1 (i - a) with
        | false => rfl
        | true =>
          have := Nat.testBit_one_eq_true_iff_self_eq_zero.mp h
          omega
      rw [this, Bool.or_false]
  · rw [decide_eq_false h, decide_eq_false (show ¬ i = a by omega), decide_eq_false (show ¬ a < i by omega)]
    rfl
theorem snoc_ind {P : List Nat → Prop} (h0 : P []) (h1 : ∀ w a, P w → P (w ++ [a])) (w : List Nat) : P w := by
  have : ∀ l : List Nat, P l.reverse := by
    intro l
    induction l with
    | nil => exact h0
    | cons a t ih =>
      rw [List.reverse_cons]
      exact h1 _ a ih
  have h := this w.reverse
  rwa [List.reverse_reverse] at h
theorem count_snoc (w : List Nat) (a x : Nat) : (w ++ [a]).count x = w.count x + if x = a then 1 else 0 := by
  rw [List.count_append, List.count_cons, List.count_nil]
  by_cases e : x = a
  · subst e
    simp
  · have e2 : (a == x) = false := by simpa using fun z : a = x => e z.symm
    rw [e2, if_neg e]
    simp
theorem stOf_bit (w : List Nat) : ∀ x, (stOf ps w).1.testBit x = decide (w.count x % 2 = 1) := by
  refine snoc_ind (P := fun w => ∀ x, (stOf ps w).1.testBit x = decide (w.count x % 2 = 1)) (fun x => ?_) (fun w a ih x => ?_) w
  · show (0 : Nat).testBit x = _
    rw [Nat.zero_testBit, List.count_nil]
    rfl
  · rw [stOf_snoc]
    show (stepM (stOf ps w).1 a).testBit x = _
    unfold stepM
    rw [Nat.testBit_xor, ih, Nat.testBit_two_pow, count_snoc]
    by_cases e : x = a
    · subst e
      rw [if_pos rfl, decide_eq_true rfl]
      by_cases h : w.count x % 2 = 1
      · rw [decide_eq_true h, decide_eq_false (by omega)]; rfl
      · rw [decide_eq_false h, decide_eq_true (by omega)]; rfl
    · rw [if_neg e, decide_eq_false (show ¬ a = x from fun z => e z.symm), Bool.xor_false, Nat.add_zero]
theorem stOf_lt (w : List Nat) (h : ∀ x ∈ w, x < 8) : (stOf ps w).1 < 256 := lt_of_bits (k := 8) fun i hi => by
  rw [stOf_bit]
  have : w.count i = 0 := List.count_eq_zero.mpr fun hm => by have := h i hm; omega
  rw [this]
  rfl
theorem xor_bits {s o : Nat} (h1 : s < 2) (h2 : o < 2) : s ^^^ o = (s + o) % 2 := by
  obtain rfl | rfl : s = 0 ∨ s = 1 := by omega
  · obtain rfl | rfl : o = 0 ∨ o = 1 := by omega
    · rfl
    · rfl
  · obtain rfl | rfl : o = 0 ∨ o = 1 := by omega
    · rfl
    · rfl
theorem zero_halves (n : Nat) : ((List.range n).map fun a => ([] : List Nat).count a / 2).sum + 0 / 2 = 0 := by
  induction n with
  | zero => rfl
  | succ n ih => rw [sum_snoc, List.count_nil]; exact ih
theorem stOf_sgn (co : Co n ps) (w : List Nat) : (∀ x ∈ w, x < n) → (stOf ps w).2 = cntK n ps w % 2 := by
  have h8 := co.hi
  refine snoc_ind (P := fun w => (∀ x ∈ w, x < n) → (stOf ps w).2 = cntK n ps w % 2) (fun _ => ?_) (fun w a ih h => ?_) w
  · show 0 = cntK n ps [] % 2
    have h0 : halves n [] = 0 := by
      exact zero_halves n
    unfold cntK
    rw [h0]
    rfl
  · have hw : ∀ x ∈ w, x < n := fun x hx => h x (List.mem_append_left _ hx)
    have ha : a < n := h a (by simp)
    have hw8 : ∀ x ∈ w, x < 8 := fun x hx => Nat.lt_of_lt_of_le (hw x hx) h8
    have ih := ih hw
    have hm := stOf_lt (ps := ps) w hw8
    rw [stOf_snoc]
    show stepS ps (stOf ps w).1 (stOf ps w).2 a = _
    unfold stepS
    rw [odds_par _ (Nat.lt_of_le_of_lt Nat.and_le_left hm), ih, xor_bits (by omega) (by omega)]
    have e : ((List.range 8).map fun i => (((stOf ps w).1 &&& cv ps a).testBit i).toNat).sum % 2 = (w.count a + (w.filter fun x => decide (a < x) && fr ps a x).length) % 2 := by
      rw [filter_counts w hw8]
      have e2 : w.count a + ((List.range 8).map fun x => if (decide (a < x) && fr ps a x) = true then w.count x else 0).sum = ((List.range 8).map fun x => (if x = a then w.count a else 0) + if (decide (a < x) && fr ps a x) = true then w.count x else 0).sum := by
        rw [sum_add, sum_single (by omega)]
      rw [e2]
      refine sum_mod fun i _ => ?_
      rw [Nat.testBit_and, stOf_bit, cv_bit co]
      unfold cvb
      by_cases e3 : i = a
      · subst e3
        rw [if_pos rfl, decide_eq_true (show i = i from rfl), Bool.true_or, Bool.and_true, decide_eq_false (Nat.lt_irrefl i), Bool.false_and]
        by_cases h : w.count i % 2 = 1
        · rw [decide_eq_true h]
          show 1 % 2 = (w.count i + 0) % 2
          omega
        · rw [decide_eq_false h]
          show 0 % 2 = (w.count i + 0) % 2
          omega
      · rw [if_neg e3, decide_eq_false e3, Bool.false_or, Nat.zero_add]
        cases (decide (a < i) && fr ps a i) with
        | true =>
          rw [Bool.and_true, if_pos rfl]
          by_cases h : w.count i % 2 = 1
          · rw [decide_eq_true h]
            show 1 % 2 = _
            omega
          · rw [decide_eq_false h]
            show 0 % 2 = _
            omega
        | false =>
          rw [Bool.and_false]
          rfl
    unfold cntK
    rw [halves_snoc w ha, cross_snoc]
    unfold cntK at ih
    omega
theorem asc_ext : ∀ (l m : List Nat), l.Pairwise (· < ·) → m.Pairwise (· < ·) → (∀ x, x ∈ l ↔ x ∈ m) → l = m
  | [], [], _, _, _ => rfl
  | [], b :: m, _, _, h => absurd ((h b).mpr List.mem_cons_self) (by simp)
  | a :: l, [], _, _, h => absurd ((h a).mp List.mem_cons_self) (by simp)
  | a :: l, b :: m, hl, hm, h => by
    obtain ⟨l1, l2⟩ := List.pairwise_cons.mp hl
    obtain ⟨m1, m2⟩ := List.pairwise_cons.mp hm
    have hab : a = b := by
      have h1 := (h a).mp List.mem_cons_self
      have h2 := (h b).mpr List.mem_cons_self
      rcases List.mem_cons.mp h1 with h1 | h1
      · exact h1
      · rcases List.mem_cons.mp h2 with h2 | h2
        · exact h2.symm
        · have := m1 a h1
          have := l1 b h2
          omega
    subst hab
    rw [asc_ext l m l2 m2 fun x => ?_]
    constructor
    · intro hx
      rcases List.mem_cons.mp ((h x).mp (List.mem_cons_of_mem _ hx)) with e | e
      · have := l1 x hx
        omega
      · exact e
    · intro hx
      rcases List.mem_cons.mp ((h x).mpr (List.mem_cons_of_mem _ hx)) with e | e
      · have := m1 x hx
        omega
      · exact e
theorem kind_iff (co : Co n ps) {ls : List Nat} {s : Nat} (ki : Ki n ls s) {w : List Nat} (hw : ∀ x ∈ w, x < n) : stOf ps w = (psum ls, s) ↔ oddL n w = ls ∧ cntK n ps w % 2 = s := by
  have nd : ls.Nodup := ki.asc.imp fun h => Nat.ne_of_lt h
  have hs := stOf_sgn co w hw
  have key : (stOf ps w).1 = psum ls ↔ oddL n w = ls := by
    constructor
    · intro e
      refine asc_ext _ _ (List.pairwise_lt_range.filter _) ki.asc fun x => ?_
      have hb := stOf_bit (ps := ps) w x
      rw [e, psum_bit nd] at hb
      unfold oddL
      rw [List.mem_filter, ← hb, decide_eq_true_iff]
      exact ⟨fun h => h.2, fun h => ⟨List.mem_range.mpr (ki.lt x h), h⟩⟩
    · intro e
      refine testBit_ext fun x => ?_
      rw [stOf_bit, psum_bit nd, ← e]
      unfold oddL
      refine decide_eq_decide.mpr ?_
      rw [List.mem_filter, decide_eq_true_iff]
      refine ⟨fun h => ⟨List.mem_range.mpr (hw x ?_), h⟩, fun h => h.2⟩
      refine List.count_pos_iff.mp ?_
      omega
  constructor
  · intro e
    have e1 := congrArg Prod.fst e
    have e2 := congrArg Prod.snd e
    exact ⟨key.mp e1, hs ▸ e2⟩
  · rintro ⟨e1, e2⟩
    exact Prod.ext (key.mpr e1) (hs.trans e2)
/-- the paths are the words whose neighbours are so -/
theorem adj_snoc {f : Nat → Nat → Bool} : ∀ (u : List Nat) (a : Nat), u ≠ [] → adj f (u ++ [a]) = (adj f u && f (lastN u) a)
  | [], _, h => absurd rfl h
  | [x], a, _ => by
    show (f x a && true) = (true && f x a)
    rw [Bool.and_true, Bool.true_and]
  | x :: y :: t, a, _ => by
    have ih := adj_snoc (f := f) (y :: t) a (by simp)
    show (f x y && adj f (y :: t ++ [a])) = ((f x y && adj f (y :: t)) && f (lastN (x :: y :: t)) a)
    rw [ih, Bool.and_assoc]
    rfl
theorem paths_are {R : Nat → Nat → Bool} : ∀ t, paths n R t = (allw n (t + 1)).filter (adj R)
  | 0 => by
    show (List.range n).map (fun a => [a]) = (([[]] : List (List Nat)).flatMap fun u => (List.range n).map fun a => u ++ [a]).filter (adj R)
    rw [List.flatMap_cons, List.flatMap_nil, List.append_nil]
    refine (List.filter_eq_self.mpr fun u hu => ?_).symm
    obtain ⟨a, _, rfl⟩ := List.mem_map.mp hu
    rfl
  | t + 1 => by
    show grow n R (paths n R t) = ((allw n (t + 1)).flatMap fun u => (List.range n).map fun a => u ++ [a]).filter (adj R)
    rw [paths_are t]
    unfold grow nexts
    have hne : ∀ u ∈ allw n (t + 1), u ≠ [] := fun u hu z => by
      have := (allw_mem (t + 1) u hu).1
      rw [z] at this
      cases this
    refine flat_filter _ _ _ _ _ (fun u hu hp => ?_) (fun u hu hp => ?_)
    · rw [List.filter_map]
      congr 1
      refine List.filter_congr fun a _ => ?_
      show R (lastN u) a = adj R (u ++ [a])
      rw [adj_snoc u a (hne u hu), hp, Bool.true_and]
    · rw [List.filter_map, List.filter_eq_nil_iff.mpr, List.map_nil]
      intro a _
      show ¬ adj R (u ++ [a]) = true
      rw [adj_snoc u a (hne u hu), hp, Bool.false_and]
      simp
theorem cnt_is (co : Co n ps) {ls : List Nat} {s t : Nat} {f : Bool} (ki : Ki n ls s) : cnt n ps f t (psum ls) s = ((allw n (t + 1)).filter fun w => adj (Rf ps f) w && decide (oddL n w = ls ∧ cntK n ps w % 2 = s)).length := by
  unfold cnt
  rw [paths_are, List.filter_filter]
  congr 1
  refine List.filter_congr fun w hw => ?_
  rw [Bool.and_comm, decide_eq_decide.mpr (kind_iff co ki (allw_mem _ w hw).2)]
/-- the steps of the first table are friends -/
theorem adj_true (co : Co n ps) : ∀ w, adj (Rf ps true) w = adj (fr ps) w
  | [] => rfl
  | [a] => rfl
  | a :: b :: t => by
    have ih := adj_true co (b :: t)
    show (Rf ps true a b && adj (Rf ps true) (b :: t)) = (fr ps a b && adj (fr ps) (b :: t))
    rw [ih]
    congr 1
    unfold Rf
    by_cases e : b = a
    · subst e
      rw [fr_self co]
      simp
    · have : (b != a) = true := by simpa using e
      rw [this]
      cases fr ps a b <;> rfl
end
end Kw

namespace Kw
open PySem PySem.Spec PyProof.Rows L2 Evl

/-! ### neighbours, told by places -/
def nearL (f : Nat → Nat → Bool) (w : List Nat) : List Bool := (List.range (w.length - 1)).map fun i => f (w.getD i 0) (w.getD (i + 1) 0)
theorem near_all {f : Nat → Nat → Bool} : ∀ w : List Nat, (nearL f w).all id = adj f w
  | [] => rfl
  | [a] => rfl
  | a :: b :: t => by
    have ih := near_all (f := f) (b :: t)
    show ((List.range (t.length + 1)).map fun i => f ((a :: b :: t).getD i 0) ((a :: b :: t).getD (i + 1) 0)).all id = (f a b && adj f (b :: t))
    rw [← ih, List.range_succ_eq_map, List.map_cons, List.map_map, List.all_cons]
    rfl
theorem notin_false (bs : List Bool) : (!inV (.bl false) (bs.map V.bl)) = bs.all id := by
  induction bs with
  | nil => rfl
  | cons b t ih =>
    show (!((b == false) || inV (.bl false) (t.map V.bl))) = (b && t.all id)
    rw [Bool.not_or, ih]
    cases b <;> rfl
theorem notin_true (bs : List Bool) : (!inV (.bl true) (bs.map V.bl)) = bs.all (!·) := by
  induction bs with
  | nil => rfl
  | cons b t ih =>
    show (!((b == true) || inV (.bl true) (t.map V.bl))) = (!b && t.all (!·))
    rw [Bool.not_or, ih]
    cases b <;> rfl
theorem flat_bls (bs : List Bool) : (bs.map V.bl).all flatV = true := by
  rw [List.all_map, List.all_eq_true]
  intro b _
  rfl
theorem near_map {f g : Nat → Nat → Bool} {h : Bool → Bool} (e : ∀ x y, h (f x y) = g x y) (w : List Nat) : (nearL f w).all h = adj g w := by
  rw [← near_all]
  unfold nearL
  rw [List.all_map, List.all_map]
  congr 1
  funext i
  exact e _ _
theorem all_andZ {α : Type} {p q : α → Bool} (l : List α) : (l.all p && l.all q) = l.all fun x => p x && q x := by
  induction l with
  | nil => rfl
  | cons a t ih =>
    rw [List.all_cons, List.all_cons, List.all_cons, ← ih]
    cases p a <;> cases q a <;> simp
/-- the words without friends and without twins -/
theorem adj_false {ps : List PN} (w : List Nat) : (adj (fun x y => !fr ps x y) w && ((List.range (w.length - 1)).filter fun i => decide (w.getD i 0 = w.getD (i + 1) 0)).isEmpty) = adj (Rf ps false) w := by
  rw [← near_all, ← near_all]
  have e : ((List.range (w.length - 1)).filter fun i => decide (w.getD i 0 = w.getD (i + 1) 0)).isEmpty = (List.range (w.length - 1)).all fun i => !decide (w.getD i 0 = w.getD (i + 1) 0) := by
    rw [Bool.eq_iff_iff, List.isEmpty_iff, List.filter_eq_nil_iff, List.all_eq_true]
    refine ⟨fun h i hi => ?_, fun h i hi hh => ?_⟩
    · have := h i hi
      simpa using this
    · have := h i hi
      rw [hh] at this
      cases this
  rw [e]
  unfold nearL
  rw [List.all_map, List.all_map, all_andZ]
  congr 1
  funext i
  show (!fr ps _ _ && !decide (w.getD i 0 = w.getD (i + 1) 0)) = (w.getD (i + 1) 0 != w.getD i 0 && (fr ps _ _ == false))
  rw [Bool.and_comm]
  congr 1
  · by_cases h : w.getD i 0 = w.getD (i + 1) 0
    · rw [decide_eq_true h, h]; simp
    · rw [decide_eq_false h]
      have : (w.getD (i + 1) 0 != w.getD i 0) = true := by simpa using fun z : w.getD (i + 1) 0 = w.getD i 0 => h z.symm
      rw [this]; rfl
  · cases fr ps (w.getD i 0) (w.getD (i + 1) 0) <;> rfl
theorem due_is {f : Nat → Nat → Bool} (w : List Nat) : ((List.range (w.length - 1)).filter fun i => !f (w.getD i 0) (w.getD (i + 1) 0)).isEmpty = adj f w := by
  rw [← near_all]
  unfold nearL
  rw [List.all_map, Bool.eq_iff_iff, List.isEmpty_iff, List.filter_eq_nil_iff, List.all_eq_true]
  refine ⟨fun h i hi => ?_, fun h i hi hh => ?_⟩
  · have := h i hi
    simpa using this
  · have := h i hi
    simp only [Function.comp, id] at this
    rw [this] at hh
    cases hh
def dK (a : List Nat) (s : Int) : PyData := .tuple [.str (wS a), .int s]
theorem dK_shaped {a : List Nat} {s : Int} (h : ∀ x ∈ a, x < 8) : SeqAt.shaped (dK a s) = true := by
  have h2 : (dK a s).depth ≤ 64 := by
    simp only [dK, PyData.depth, PyData.depthAll]
    decide
  have h1 : (dK a s).canLay0 = true := by
    have := strOk_wS h
    simp only [dK, PyData.canLay0, PyData.canLayAll0, this]
    rfl
  show ((dK a s).canLay0 && decide ((dK a s).depth ≤ 64)) = true
  rw [h1, decide_eq_true h2]
  rfl
theorem dK_eqv (a b : List Nat) (s t : Nat) : PyData.eqv (dK a s) (dK b t) = decide (a = b ∧ s = t) := by
  simp only [dK, PyData.eqv, PyData.eqvAll, Bool.and_true, Bool.beq_eq_decide_eq]
  rw [wS_eq, ← Bool.decide_and]
  exact decide_eq_decide.mpr ⟨fun ⟨h1, h2⟩ => ⟨h1, by omega⟩, fun ⟨h1, h2⟩ => ⟨h1, by omega⟩⟩
section
variable {K : PySem.W.Frag} {r : Addr} {H H' : Hp} {σ : L2.St} {D : Ends} {tz tu : TS} {ta tb te : TE} {tA : TA}
theorem q_company {i m : Nat} (ra : RowAt K H r) (h : EvA tA σ H [.ref r, .int (m : Nat)]) (h4 : 4 ≤ m) (h8 : m ≤ 8) (k : ∀ c n ps H1, Co n ps → n ≤ m → Go K r H H1 → CoAt H1 c n ps → tz D (σ.set i (some (.ref c))) H1) : tSeq (tAsg (tCall (spCompany K) [] E0 tA) (gName i)) tz D σ H := h H (Ex.refl H) _ fun H1 e => ⟨r, m, rfl, h4, h8, ra.ex e, fun c n ps H2 co hn g hc => k c n ps H2 co hn ((Go.ex ra e).trans g) hc⟩
theorem q_word {i : Nat} {c : Addr} {n m : Nat} {ps : List PN} (ra : RowAt K H r) (h : EvA tA σ H [.ref r, .ref c, .int (m : Nat)]) (co : Co n ps) (hc : CoAt H c n ps) (h1 : 1 ≤ m) (h2 : m ≤ 100) (k : ∀ (u : List Nat) H1, (∀ x ∈ u, x < n) → 1 ≤ u.length → u.length ≤ m → Go K r H H1 → tz D (σ.set i (some (.str (wS u)))) H1) : tSeq (tAsg (tCall (spWord K) [] E0 tA) (gName i)) tz D σ H := h H (Ex.refl H) _ fun H1 e =>
  ⟨r, c, n, ps, m, rfl, ra.ex e, co, hc.mono (tu_ex e), h1, h2, fun u H2 a1 a2 a3 g => k u H2 a1 a2 a3 ((Go.ex ra e).trans g)⟩
theorem q_drawn {i j l o : Nat} {c : Addr} {n : Nat} {ps : List PN} {x y z : V} (ra : RowAt K H r) (h : EvA tA σ H [.ref r, .ref c]) (co : Co n ps) (hc : CoAt H c n ps) (k : ∀ kd u s H1, Ki n u s → Go K r H H1 → KiAt H1 kd u s → tz D ((((σ.set i (some (.ref kd))).set j (some x)).set l (some y)).set o (some z)) H1) :
    tSeq (tAsg (tTup (tCons (tCall (spDrawn K) [] E0 tA) (tCons (tC x) (tCons (tC y) (tCons (tC z) tNil))))) (gTup K 4 (gCons (gName i) (gCons (gName j) (gCons (gName l) (gCons (gName o) gNil)))))) tz D σ H := h H (Ex.refl H) _ fun H1 e =>
  ⟨r, c, n, ps, rfl, ra.ex e, co, hc.mono (tu_ex e), fun kd u s H2 ki g hk => ⟨show 4 ≤ sizeLine by decide, fun p hp => ⟨p, _, rfl, st_of upd_same, rfl, _, _, rfl, _, _, rfl, _, _, rfl, _, _, rfl, rfl, k kd u s _ ki (((Go.ex ra e).trans g).new hp) (Ex.new hp _ _ hk)⟩⟩⟩
theorem evr_pick {u : List Nat} {x : V} (h : ∀ H1, Go K r H H1 → EvA tA σ H1 [.ref r, x]) (hx : x = .str (wS u) ∨ ∃ l, x = .ref l ∧ l ≠ r ∧ H l = some (.lst (u.map fun a => .str (sg a)))) (h1 : 1 ≤ u.length) (h2 : u.length ≤ 1000) : EvR K r (tCall (spPick K) [] E0 tA) σ H fun v => ∃ a ∈ u, v = .str (sg a) := fun H1 g Q q => h H1 g H1 (Ex.refl _) _ fun H2 e =>
  ⟨r, x, u, rfl, g.2.ex e, hx.imp id (fun ⟨l, a, b, c⟩ => ⟨l, a, b, e _ _ (g.1 _ _ b c)⟩), h1, h2, fun a H3 ha g3 => q _ H3 ((Go.ex g.2 e).trans g3) ⟨a, ha, rfl⟩⟩
theorem et_kind {c kd : Addr} {n : Nat} {ps : List PN} {w ls : List Nat} {s : Nat} (h : EvA tA σ H [.ref c, .str (wS w)]) (ht : Ev te σ H (.ref kd)) (co : Co n ps) (hc : CoAt H c n ps) (hk : KiAt H kd ls s) (ki : Ki n ls s) (hw : ∀ x ∈ w, x < n) (hl : w.length ≤ 100) :
    EvT (tTest (tOp (rEqD K) (tCall spKindL [] E0 tA) te)) σ H (decide (oddL n w = ls ∧ cntK n ps w % 2 = s)) := et_test fun H1 e Q q => h H1 e _ fun H2 e2 => ⟨c, n, ps, w, rfl, co, hc.mono (tu_ex (e.trans e2)), hw, hl, fun p H3 hp e3 h3 => ht H3 ((e.trans e2).trans e3) _ fun H4 e4 =>
  ⟨dK (oddL n w) ((cntK n ps w % 2 : Nat) : Int), dK ls (s : Nat), .tup (st_of (e4 _ _ h3)) (.cons (.str _) (.cons (.int _) .nil)), .tup (st_of ((((e.trans e2).trans e3).trans e4) _ _ hk)) (.cons (.str _) (.cons (.int _) .nil)), dK_shaped (fun x hx => Nat.lt_of_lt_of_le (List.mem_range.mp (List.mem_filter.mp hx).1) co.hi), dK_shaped (fun x hx => Nat.lt_of_lt_of_le (ki.lt x hx) co.hi), by
    rw [dK_eqv]
    exact q H4 ((e2.trans e3).trans e4)⟩⟩
theorem et_alike1 {f : Addr} {ns : List Int} (ha : Ev ta σ H (.ref f)) (hf : H f = some (.lst (ns.map V.int))) (hb : EvL tb σ H (ns.map V.int)) (hl : ns.length ≤ 100) : EvT (tNot (tB (tCall spAlike1 [] E0 (tCons ta (tCons tb tNil))))) σ H false := et_not (a := true) (et_B fun H1 e Q q => ha H1 e _ fun H2 e2 => hb H2 (e.trans e2) _ fun p H3 hp e3 h3 =>
  ⟨f, p, ns, rfl, ((e.trans e2).trans e3) _ _ hf, h3, hl, fun H4 e4 => q H4 ((e2.trans e3).trans e4)⟩)
theorem ev_alike0 {v : V} (h : EvA tA σ H [v, v]) (hs : isS v) : Ev (tCall spAlike0 [] E0 tA) σ H (.bl true) := ev_call (vs := [v, v]) h fun H1 e1 Q' q' E' => ⟨v, rfl, hs, q'⟩
theorem isS_vG (g : Option (List Nat)) : isS (vG g) := by
  cases g with
  | none => exact .inr (.inr (.inl rfl))
  | some u => exact .inr (.inr (.inr ⟨_, rfl⟩))
theorem ints_shaped (ns : List Int) : SeqAt.shaped (.list (ns.map PyData.int)) = true := by
  have h1 : ∀ ns : List Int, PyData.depthAll (ns.map PyData.int) ≤ 2 := by
    intro ns
    induction ns with
    | nil => simp [PyData.depthAll]
    | cons n t ih => simp only [List.map_cons, PyData.depthAll, PyData.depth]; omega
  have h2 : ∀ ns : List Int, PyData.canLayAll0 (ns.map PyData.int) = true := by
    intro ns
    induction ns with
    | nil => simp [PyData.canLayAll0]
    | cons n t ih => simp only [List.map_cons, PyData.canLayAll0, PyData.canLay0, ih]; rfl
  have h3 := h1 ns
  have h4 : PyData.depth (.list (ns.map PyData.int)) ≤ 64 := by
    simp only [PyData.depth]
    omega
  show (PyData.canLay0 (.list (ns.map PyData.int)) && decide (PyData.depth (.list (ns.map PyData.int)) ≤ 64)) = true
  rw [Bool.and_eq_true]
  exact ⟨by simp only [PyData.canLay0]; exact h2 ns, decide_eq_true h4⟩
theorem dp_ints {H : Hp} (ns : List Int) : DpAll K H (ns.map V.int) (ns.map PyData.int) := by
  induction ns with
  | nil => exact .nil
  | cons n t ih => exact .cons (.int _) ih
/-- [ints] == [] -/
theorem ev_eqNil {is : List Nat} (ha : EvL ta σ H (is.map fun i => .int ((i : Nat) : Int))) (hb : EvL tb σ H []) : Ev (tOp (rEqD K) ta tb) σ H (.bl is.isEmpty) := ev_opLL ha hb fun p q H4 hp hq e4 H5 e5 Q' q' => by
  have hp' : H4 p = some (.lst ((is.map fun i => ((i : Nat) : Int)).map V.int)) := by rw [List.map_map]; exact hp
  refine ⟨.list ((is.map fun i => ((i : Nat) : Int)).map PyData.int), .list [], .lst (sq_of (e5 _ _ hp')) (dp_ints _), .lst (sq_of (e5 _ _ hq)) .nil, ints_shaped _, ints_shaped [], ?_⟩
  have : PyData.eqv (.list ((is.map fun i => ((i : Nat) : Int)).map PyData.int)) (.list []) = is.isEmpty := by
    cases is with
    | nil => simp [PyData.eqv, PyData.eqvAll]
    | cons u t => simp [PyData.eqv, PyData.eqvAll]
  rw [this]
  exact q' H5 (Ex.refl _)
theorem ev_intB {b : Bool} (h : Ev te σ H (.bl b)) : Ev (tCB (fun xs H Q => (∃ i, xs = [V.int i] ∧ Q (.int i) H) ∨ ∃ k, xs = [V.bl k] ∧ Q (.int (if k then 1 else 0)) H) (tCons te tNil)) σ H (.int (if b then 1 else 0)) := ev_cb (ea_cons h ea_nil) fun H1 e Q q => .inr ⟨b, rfl, q H1 (Ex.refl _)⟩
theorem cutS_last3 {u : List Nat} : cutS (wS u) (some (-3)) none = wS (u.drop (u.length - 3)) := by
  unfold cutS
  have h1 : HT.sIx (wS u).length 0 (some (-3)) = u.length - 3 := by
    rw [wS_len]
    show (if (-3 : Int) < 0 then ((-3 : Int) + (u.length : Int)).toNat else min ((-3 : Int)).toNat u.length) = _
    rw [if_pos (by decide)]
    omega
  have h2 : HT.sIx (wS u).length (wS u).length none = u.length := by rw [HT.sIx_none, wS_len]
  rw [h1, h2, wS_list, ← List.map_drop, List.take_of_length_le (by rw [List.length_map, List.length_drop]; omega)]
  rfl
theorem filt_snoc {α : Type} {l : List α} {i : Nat} {x : α} {p : α → Bool} (h : l[i]? = some x) : ((l.take (i + 1)).filter p).length = ((l.take i).filter p).length + if p x then 1 else 0 := by
  rw [take_snoc h, List.filter_append, List.length_append, List.filter_cons]
  split <;> rfl
theorem ev_notinS {a : Nat} {u : List Nat} (ha : Ev ta σ H (.str (sg a))) (hb : Ev tb σ H (.str (wS u))) : Ev (tOp (fun x y H Q => ∃ (c : Nat) (z : Str), x = V.str ⟨#[c]⟩ ∧ y = V.str z ∧ Q (.bl (!decide (c ∈ z.cps.toList))) H) ta tb) σ H (.bl (!u.contains a)) := ev_op ha hb fun H1 e Q q => ⟨97 + a, wS u, rfl, rfl, by
  have : decide (97 + a ∈ (wS u).cps.toList) = u.contains a := by
    rw [List.contains_eq_mem]
    refine decide_eq_decide.mpr ?_
    rw [wS_list, List.mem_map]
    exact ⟨fun ⟨b, h1, h2⟩ => by rwa [show a = b by omega], fun h => ⟨a, h, rfl⟩⟩
  rw [this]
  exact q H1 (Ex.refl _)⟩
end
end Kw

namespace Kw
open PySem PySem.Spec PyProof.Rows L2 Evl

def spLaw (K : PySem.W.Frag) : Sp := fun vs H Q _ => ∃ (sc : Addr) (ns : List Int), vs = [.ref sc] ∧ SqL K H sc (ns.map V.int) ∧ ∀ H2, Q (.bl true) H2
def lenOf (n : Nat) : Nat := [0, 0, 7, 6, 4].getD n 0
section
variable {P : Program} {w : World} {K : PySem.W.Frag} {mg : Str → Option Value} {base : Heap} {σ : L2.St} {H : Hp}
theorem evr_add1 {r : Addr} {tb : TE} {m : Nat} (h : EvR K r tb σ H fun v => ∃ x : Nat, x < m ∧ v = .int (x : Nat)) : EvR K r (tOp (rI0 fun i j => .int (i + j)) (tC (.int 1)) tb) σ H fun v => ∃ x : Nat, x < m ∧ v = .int ((x + 1 : Nat) : Int) := fun H1 g Q q => h H1 g _ fun v H2 g2 ⟨x, hx, e⟩ => by
  subst e
  exact ⟨1, x, rfl, rfl, by
    show Q (.int ((1 : Int) + (x : Int))) H2
    rw [show (1 : Int) + (x : Int) = ((x + 1 : Nat) : Int) by omega]
    exact q _ H2 g2 ⟨x, hx, rfl⟩⟩
theorem evr_catS {r : Addr} {ta tb : TE} {p l : List Nat} (ha : ∀ H1, Go K r H H1 → Ev ta σ H1 (.str (wS p))) (hb : EvR K r tb σ H fun v => ∃ a ∈ l, v = .str (sg a)) (hz : p.length ≤ 1000) : EvR K r (tOp (fun x y H Q => ∃ i j, x = V.str i ∧ y = V.str j ∧ i.length + j.length ≤ sizeLine ∧ Q (.str (i ++ j)) H) ta tb) σ H fun v => ∃ a ∈ l, v = .str (wS (p ++ [a])) := fun H1 g Q q =>
  ha H1 g H1 (Ex.refl _) _ fun H2 e2 => hb H2 (g.then e2) _ fun v H3 g3 ⟨a, hm, e⟩ => by
    subst e
    refine ⟨wS p, sg a, rfl, rfl, ?_, ?_⟩
    · rw [wS_len]
      exact Nat.le_trans (show p.length + 1 ≤ 1001 by omega) (by decide)
    · rw [sg_wS, wS_app]
      exact q _ H3 ((Go.ex g.2 e2).trans g3) ⟨a, hm, rfl⟩
theorem sr_asg {D : Ends} {r : Addr} {te : TE} {i : Nat} {Pd : V → Prop} (ra : RowAt K H r) (h : EvR K r te σ H Pd) (k : ∀ v H1, Go K r H H1 → Pd v → D.nx (σ.set i (some v)) H1) : tAsg te (gName i) D σ H := h H (Go.refl ra) _ fun v H1 g p => k v H1 g p
theorem q_picks {D : Ends} {tz : TS} {r : Addr} {ta tb : TE} {i j : Nat} {Pa Pb : V → Prop} (ra : RowAt K H r) (ha : EvR K r ta σ H Pa) (hb : EvR K r tb σ H Pb) (k : ∀ v w H1, Go K r H H1 → Pa v → Pb w → tz D ((σ.set i (some v)).set j (some w)) H1) : tSeq (tAsg (tTup (tCons ta (tCons tb tNil))) (gTup K 2 (gCons (gName i) (gCons (gName j) gNil)))) tz D σ H :=
  ha H (Go.refl ra) _ fun v H1 g pa => hb H1 g _ fun w H2 g2 pb => ⟨show 2 ≤ sizeLine by decide, fun p hp => g_two upd_same (k v w _ ((g.trans g2).new hp) pa pb)⟩
theorem q_parL {D : Ends} {tz : TS} {ta tb : TE} {i j : Nat} {xs : List V} {v : V} (ha : EvL ta σ H xs) (hb : Ev tb σ H v) (k : ∀ p H1, H p = none → Ex H H1 → H1 p = some (.lst xs) → tz D ((σ.set i (some (.ref p))).set j (some v)) H1) : tSeq (tPar i j (tCons ta (tCons tb tNil))) tz D σ H :=
  ha H (Ex.refl _) _ fun p H1 hp e1 h1 => hb H1 e1 _ fun H2 e2 => ⟨_, _, rfl, k p H2 hp (e1.trans e2) (e2 _ _ h1)⟩
theorem qr_ifC {D : Ends} {tz tu : TS} {r : Addr} {t : TT} {Pb : Bool → Prop} (C : L2.St → Hp → Prop) (ra : RowAt K H r) (h : EvTR K r t σ H Pb) (h1 : ∀ H1, Go K r H H1 → (∀ σ' H', C σ' H' → tz D σ' H') → tu { D with nx := tz D } σ H1) (h2 : ∀ H1, Go K r H H1 → C σ H1) (cont : ∀ σ' H', C σ' H' → tz D σ' H') : tSeq (tIfS t tu tNext) tz D σ H :=
  qr_if ra h (fun _ H1 g => h1 H1 g cont) (fun H1 g => cont _ _ (h2 H1 g))
theorem lenOf_at {n : Nat} (h1 : 2 ≤ n) (h2 : n ≤ 4) : atI ([.int 0, .int 0, .int 7, .int 6, .int 4] : List V) ((n : Nat) : Int) = some (.int ((lenOf n : Nat) : Int)) := by
  obtain rfl | rfl | rfl : n = 2 ∨ n = 3 ∨ n = 4 := by omega
  · exact atI_nat rfl
  · exact atI_nat rfl
  · exact atI_nat rfl
theorem ev_lenOf {te : TE} {n : Nat} (h : ∀ H1, Ex H H1 → Ev te σ H1 (.int (n : Nat))) (h1 : 2 ≤ n) (h2 : n ≤ 4) : Ev (tOp (rIxL K) (tLst (tCons (tC (.int 0)) (tCons (tC (.int 0)) (tCons (tC (.int 7)) (tCons (tC (.int 6)) (tCons (tC (.int 4)) tNil)))))) te) σ H (.int ((lenOf n : Nat) : Int)) :=
  ev_opL1 (el_lst (ea_cons ev_c (ea_cons ev_c (ea_cons ev_c (ea_cons ev_c (ea_cons ev_c ea_nil))))) (by decide)) h fun p H1 hp e1 => rv_ixL (sq_of hp) (lenOf_at h1 h2)
theorem has_friend {n : Nat} {ps : List PN} (co : Co n ps) {l : Nat} (hl : l < n) : 1 ≤ ((List.range n).filter fun a => fr ps a l).length := by
  obtain ⟨p, hp, h⟩ := co.all l hl
  have hlt := co.lt p hp
  have : ∃ a, a < n ∧ fr ps a l = true := by
    rcases h with h | h
    · refine ⟨p.2, hlt.2, decide_eq_true ?_⟩
      rw [Nat.min_eq_right (by omega), Nat.max_eq_left (by omega), ← h]
      exact hp
    · refine ⟨p.1, by omega, decide_eq_true ?_⟩
      rw [Nat.min_eq_left (by omega), Nat.max_eq_right (by omega), ← h]
      exact hp
  obtain ⟨a, ha, hf⟩ := this
  exact List.length_pos_of_mem (List.mem_filter.mpr ⟨List.mem_range.mpr ha, hf⟩)
theorem vG_none {g : Option (List Nat)} : decide (vG g = V.non) = g.isNone := by
  cases g with
  | none => exact decide_eq_true rfl
  | some u => exact decide_eq_false fun z => by cases z
theorem ok_law {f fC  fT  fD  fA  fF  fK  fX  fY  fW  fP  fcw  fcs  faw  fiw  fsw : Addr} {fd fdC  fdT  fdD  fdA  fdF  fdK  fdX  fdY  fdW  fdP  fdcw  fdcs  fdaw  fdiw  fdsw : FuncData} (D : Df K mg "law" s_law ["_law_script"] f fd) (B : Bt mg)
    (DC : Df K mg "_law_company" s_l_company ["_law_row", "_law_most"] fC fdC) (GC : FnOk P w K mg base CX0 2 fC fdC ["_law_row", "_law_most"] (spCompany K))
    (DT : Df K mg "_law_taken" s_l_taken ["_law_row", "_law_many"] fT fdT) (GT : FnOk P w K mg base CX0 1 fT fdT ["_law_row", "_law_many"] (spTaken K))
    (DD : Df K mg "_law_drawn_kind" s_l_drawn_kind ["_law_row", "_law_company_here"] fD fdD) (GD : FnOk P w K mg base CX0 2 fD fdD ["_law_row", "_law_company_here"] (spDrawn K))
    (DA : Df K mg "_law_all_words" s_l_all_words ["_law_company_here", "_law_length"] fA fdA) (GA : FnOk P w K mg base CX0 1 fA fdA ["_law_company_here", "_law_length"] spAllW)
    (DF : Df K mg "_law_friend" s_l_friend ["_law_company_here", "_law_one", "_law_other"] fF fdF) (GF : FnOk P w K mg base CX0 1 fF fdF ["_law_company_here", "_law_one", "_law_other"] spFriend)
    (DK : Df K mg "_law_kind" s_l_kind ["_law_company_here", "_law_word_here"] fK fdK) (GK : FnOk P w K mg base CX0 2 fK fdK ["_law_company_here", "_law_word_here"] spKindL)
    (DX : Df K mg "_law_alike" s_l_alike ["_law_found", "_law_due"] fX fdX) (GX : FnOk P w K mg base CX0 1 fX fdX ["_law_found", "_law_due"] spAlike0)
    (DY : Df K mg "_law_alike" s_l_alike ["_law_found", "_law_due"] fY fdY) (GY : FnOk P w K mg base CX0 2 fY fdY ["_law_found", "_law_due"] spAlike1)
    (DW : Df K mg "_law_word" s_l_word ["_law_row", "_law_company_here", "_law_most"] fW fdW) (GW : FnOk P w K mg base CX0 2 fW fdW ["_law_row", "_law_company_here", "_law_most"] (spWord K))
    (DP : Df K mg "_law_pick" s_l_pick ["_law_row", "_law_things"] fP fdP) (GP : FnOk P w K mg base CX0 2 fP fdP ["_law_row", "_law_things"] (spPick K))
    (Dcw : Df K mg "count_walks" s_count_walks ["company", "kind", "length"] fcw fdcw) (Gcw : FnOk P w K mg base CX0 6 fcw fdcw ["company", "kind", "length"] (spCount true))
    (Dcs : Df K mg "count_shy" s_count_shy ["company", "kind", "length"] fcs fdcs) (Gcs : FnOk P w K mg base CX0 6 fcs fdcs ["company", "kind", "length"] (spCount false))
    (Daw : Df K mg "all_walks" s_all_walks ["company", "length"] faw fdaw) (Gaw : FnOk P w K mg base CX0 4 faw fdaw ["company", "length"] spAll)
    (Diw : Df K mg "is_walk" s_is_walk ["company", "word"] fiw fdiw) (Giw : FnOk P w K mg base CX0 5 fiw fdiw ["company", "word"] spIsWalk)
    (Dsw : Df K mg "shortest_walk" s_shortest_walk ["company", "one", "other"] fsw fdsw) (Gsw : FnOk P w K mg base CX0 4 fsw fdsw ["company", "one", "other"] spShort) : FnOk P w K mg base CX0 7 f fd ["_law_script"] (spLaw K) := by
  refine D.F.ok sc_law (fun vs H Q E h => ?_) (fun cdv A outer s H vs Q E hr h => ?_)
  · obtain ⟨sc, ns, rfl, _⟩ := h
    rfl
  · obtain ⟨sc, ns, rfl, hS, k⟩ := h
    have nd := sc_law.nd
    refine ⟨_, (pss_cons (ps_set (i := 1) nd rfl (Or.inl rfl) (pe_lst (pa_cons (pv 0) (pa_cons pe_int (pa_cons pe_int (pa_cons pe_int pa_nil))))))
      (pss_cons (ps_set (i := 2) nd rfl (Or.inr rfl) (pcall DC GC (hr.mono (by decide)) (pa_cons (pv 1) (pa_cons pe_int pa_nil))))
      (pss_cons (ps_set (i := 3) nd rfl (Or.inl rfl) (pe_op op_add pe_int (pcall DT GT (hr.mono (by decide)) (pa_cons (pv 1) (pa_cons (pe_ix ix_list (pe_lst (pa_cons pe_int (pa_cons pe_int (pa_cons pe_int (pa_cons pe_int (pa_cons pe_int pa_nil)))))) (pe_ix ix_tup (pv 2) pe_int (fun _ _ => rfl)) (fun _ _ => rfl)) pa_nil)))))
      (pss_cons (ps_asg (pe_tup (pa_cons (pcall DD GD (hr.mono (by decide)) (pa_cons (pv 1) (pa_cons (pv 2) pa_nil))) (pa_cons pe_int (pa_cons pe_int (pa_cons pe_int pa_nil))))) (pg_tup (by rfl) (pgs_cons (pg_name (i := 4) nd rfl (Or.inl rfl)) (pgs_cons (pg_name (i := 5) nd rfl (Or.inl rfl)) (pgs_cons (pg_name (i := 6) nd rfl (Or.inl rfl)) (pgs_cons (pg_name (i := 7) nd rfl (Or.inl rfl)) pgs_nil))))))
      (pss_cons (ps_for PassesOwn.never rfl (pi_list (pcall DA GA (hr.mono (by decide)) (pa_cons (pv 2) (pa_cons (pv 3) pa_nil)))) (pg_name (i := 8) nd rfl (Or.inr rfl)) (pss_cons (ps_setLc (i := 9) (own := [("_law_at", 10)]) (g := gName 10) (tt := tYes) rfl nd rfl rfl (sw_true rfl rfl rfl (by decide +kernel)) (pi_range1 rfl B.range (pa_cons (pe_op op_sub (pv 3) pe_int) pa_nil)) (blkOk_by (N := ["_law_script", "_law_row", "_law_company_here", "_law_length", "_law_told", "_law_friendly", "_law_shy", "_law_whole", "_law_word_here", "_law_near", "_law_at", "_law_found", "_law_great", "_law_turn", "_law_sign", "_law_due", "_law_signs", "_law_one", "_law_other", "_law_rows", "_law_goal", "_law_longer", "_law_some", "_law_ends"]) (sc := (defScope s_law)) (by decide +kernel)) (fun _ _ _ _ _ => (pg_name (i := 10) nd rfl (Or.inl rfl))) (fun _ _ _ _ _ => pts_nil)
        (fun _ _ _ _ _ => (pcall DF GF (hr.mono (by decide)) (pa_cons (pv 2) (pa_cons (pe_ix (r := rIxS) ix_str (pv 8) (pv 10) (fun _ _ => rfl)) (pa_cons (pe_ix (r := rIxS) ix_str (pv 8) (pe_op op_add (pv 10) pe_int) (fun _ _ => rfl)) pa_nil))))))
      (pss_cons (ps_set (i := 7) nd rfl (Or.inl rfl) (pe_op op_add (pv 7) (pe_callTy call_int1 (by rfl) B.int (by decide +kernel) (pa_cons (pe_cmpR op_notIn_seq pe_bl (pv 9) rfl) pa_nil))))
      (pss_one (ps_if (pt_cmpR (op_eqD hr.units) (pcall DK GK (hr.mono (by decide)) (pa_cons (pv 2) (pa_cons (pv 8) pa_nil))) (pv 4) (nomark _)) (pss_cons (ps_set (i := 5) nd rfl (Or.inl rfl) (pe_op op_add (pv 5) (pe_callTy call_int1 (by rfl) B.int (by decide +kernel) (pa_cons (pe_cmpR op_notIn_seq pe_bl (pv 9) rfl) pa_nil))))
      (pss_one (ps_set (i := 6) nd rfl (Or.inl rfl) (pe_op op_add (pv 6) (pe_callTy call_int1 (by rfl) B.int (by decide +kernel) (pa_cons (pe_and (pe_cmpR op_notIn_seq pe_bl (pv 9) rfl) (pe_one (pe_cmpR (op_eqD hr.units) (pe_lc (own := [("_law_at", 10)]) (tt := _) rfl nd (pi_range1 rfl B.range (pa_cons (pe_op op_sub (pv 3) pe_int) pa_nil)) (blkOk_by (N := ["_law_script", "_law_row", "_law_company_here", "_law_length", "_law_told", "_law_friendly", "_law_shy", "_law_whole", "_law_word_here", "_law_near", "_law_at", "_law_found", "_law_great", "_law_turn", "_law_sign", "_law_due", "_law_signs", "_law_one", "_law_other", "_law_rows", "_law_goal", "_law_longer", "_law_some", "_law_ends"]) (sc := (defScope s_law)) (by decide +kernel)) (fun _ _ _ _ _ => (pg_name (i := 10) nd rfl (Or.inl rfl))) (fun _ _ _ _ _ => pts_one (pt_cmpR op_eq (pe_ix (r := rIxS) ix_str (pv 8) (pv 10) (fun _ _ => rfl)) (pe_ix (r := rIxS) ix_str (pv 8) (pe_op op_add (pv 10) pe_int) (fun _ _ => rfl)) (nomark _)))
        (fun _ _ _ _ _ => (pv 10))) (pe_lst pa_nil) (nomark _)))) pa_nil)))))) pss_nil)))))
      (pss_cons (ps_set (i := 11) nd rfl (Or.inl rfl) (pe_lst (pa_cons (pcall Dcw Gcw hr (pa_cons (pv 2) (pa_cons (pv 4) (pa_cons (pv 3) pa_nil)))) (pa_cons (pcall Dcs Gcs hr (pa_cons (pv 2) (pa_cons (pv 4) (pa_cons (pv 3) pa_nil)))) (pa_cons (pcall Daw Gaw (hr.mono (by decide)) (pa_cons (pv 2) (pa_cons (pv 3) pa_nil))) pa_nil)))))
      (pss_cons (ps_if (pt_not (pt_val (pcall DY GY (hr.mono (by decide)) (pa_cons (pv 11) (pa_cons (pe_lst (pa_cons (pv 5) (pa_cons (pv 6) (pa_cons (pv 7) pa_nil)))) pa_nil))))) (pss_one (ps_ret pe_bl)) pss_nil)
      (pss_cons (ps_set (i := 12) nd rfl (Or.inr rfl) (pcall DC GC (hr.mono (by decide)) (pa_cons (pv 1) (pa_cons pe_int pa_nil))))
      (pss_cons (ps_set (i := 8) nd rfl (Or.inr rfl) (pcall DW GW (hr.mono (by decide)) (pa_cons (pv 1) (pa_cons (pv 12) (pa_cons pe_int pa_nil)))))
      (pss_cons (ps_if (pt_cmpR op_eq (pcall DT GT (hr.mono (by decide)) (pa_cons (pv 1) (pa_cons pe_int pa_nil))) pe_int (nomark _)) (pss_one (ps_for PassesOwn.never rfl (pi_range1 rfl B.range (pa_cons pe_int pa_nil)) (pg_name (i := 13) nd rfl (Or.inl rfl)) (pss_cons (ps_setLc (i := 9) (own := [("_law_sign", 14)]) (g := gName 14) (tt := _) rfl nd rfl rfl (sw_true rfl rfl rfl (by decide +kernel)) (pi_str (pe_slice sl_str pe_str po_none (po_some (pe_ix ix_tup (pv 12) pe_int (fun _ _ => rfl))))) (blkOk_by (N := ["_law_script", "_law_row", "_law_company_here", "_law_length", "_law_told", "_law_friendly", "_law_shy", "_law_whole", "_law_word_here", "_law_near", "_law_at", "_law_found", "_law_great", "_law_turn", "_law_sign", "_law_due", "_law_signs", "_law_one", "_law_other", "_law_rows", "_law_goal", "_law_longer", "_law_some", "_law_ends"]) (sc := (defScope s_law)) (by decide +kernel)) (fun _ _ _ _ _ => (pg_name (i := 14) nd rfl (Or.inl rfl))) (fun _ _ _ _ _ => pts_one (pt_val (pcall DF GF (hr.mono (by decide)) (pa_cons (pv 12) (pa_cons (pv 14) (pa_cons (pe_ix (r := rIxS) ix_str (pv 8) (pe_un un_neg pe_int) (fun _ _ => rfl)) pa_nil))))))
        (fun _ _ _ _ _ => (pv 14)))
      (pss_one (ps_set (i := 8) nd rfl (Or.inr rfl) (pe_op op_add_str (pe_slice sl_str (pv 8) (po_some (pe_un un_neg pe_int)) po_none) (pcall DP GP (hr.mono (by decide)) (pa_cons (pv 1) (pa_cons (pv 9) pa_nil))))))))) pss_nil)
      (pss_cons (ps_set (i := 15) nd rfl (Or.inl rfl) (pe_cmpR (op_eqD hr.units) (pe_lc (own := [("_law_at", 10)]) (tt := _) rfl nd (pi_range1 rfl B.range (pa_cons (pe_op op_sub (pe_callB call_len_str (by rfl) B.len PySem.boot_len (pa_cons (pv 8) pa_nil)) pe_int) pa_nil)) (blkOk_by (N := ["_law_script", "_law_row", "_law_company_here", "_law_length", "_law_told", "_law_friendly", "_law_shy", "_law_whole", "_law_word_here", "_law_near", "_law_at", "_law_found", "_law_great", "_law_turn", "_law_sign", "_law_due", "_law_signs", "_law_one", "_law_other", "_law_rows", "_law_goal", "_law_longer", "_law_some", "_law_ends"]) (sc := (defScope s_law)) (by decide +kernel)) (fun _ _ _ _ _ => (pg_name (i := 10) nd rfl (Or.inl rfl))) (fun _ _ _ _ _ => pts_one (pt_not (pt_val (pcall DF GF (hr.mono (by decide)) (pa_cons (pv 12) (pa_cons (pe_ix (r := rIxS) ix_str (pv 8) (pv 10) (fun _ _ => rfl)) (pa_cons (pe_ix (r := rIxS) ix_str (pv 8) (pe_op op_add (pv 10) pe_int) (fun _ _ => rfl)) pa_nil)))))))
        (fun _ _ _ _ _ => (pv 10))) (pe_lst pa_nil) (nomark _)))
      (pss_cons (ps_if (pt_not (pt_val (pcall DX GX (hr.mono (by decide)) (pa_cons (pcall Diw Giw (hr.mono (by decide)) (pa_cons (pv 12) (pa_cons (pv 8) pa_nil))) (pa_cons (pv 15) pa_nil))))) (pss_one (ps_ret pe_bl)) pss_nil)
      (pss_cons (ps_set (i := 16) nd rfl (Or.inl rfl) (pe_slice sl_str pe_str po_none (po_some (pe_ix ix_tup (pv 12) pe_int (fun _ _ => rfl)))))
      (pss_cons (ps_asg (pe_tup (pa_cons (pcall DP GP (hr.mono (by decide)) (pa_cons (pv 1) (pa_cons (pv 16) pa_nil))) (pa_cons (pcall DP GP (hr.mono (by decide)) (pa_cons (pv 1) (pa_cons (pv 16) pa_nil))) pa_nil))) (pg_tup (by rfl) (pgs_cons (pg_name (i := 17) nd rfl (Or.inl rfl)) (pgs_cons (pg_name (i := 18) nd rfl (Or.inr rfl)) pgs_nil))))
      (pss_cons (ps_par (i := 19) (j := 20) rfl nd rfl rfl (by decide) rfl rfl (pa_cons (pe_lst (pa_cons (pv 17) pa_nil)) (pa_cons (pe_ifExp (pt_cmpR op_eq (pv 17) (pv 18) (nomark _)) (pv 17) pe_non) pa_nil)) (by rfl))
      (pss_cons (ps_for PassesOwn.never rfl (pi_range1 rfl B.range (pa_cons (pe_ix ix_tup (pv 12) pe_int (fun _ _ => rfl)) pa_nil)) (pg_name (i := 13) nd rfl (Or.inl rfl)) (pss_cons (ps_set (i := 21) nd rfl (Or.inl rfl) (pe_lst pa_nil))
      (pss_cons (ps_for PassesOwn.never rfl (pi_list (pv 19)) (pg_name (i := 22) nd rfl (Or.inr rfl)) (pss_one (ps_set (i := 21) nd rfl (Or.inl rfl) (pe_op op_cat (pv 21) (pe_lc (own := [("_law_sign", 14)]) (tt := _) rfl nd (pi_str (pv 16)) (blkOk_by (N := ["_law_script", "_law_row", "_law_company_here", "_law_length", "_law_told", "_law_friendly", "_law_shy", "_law_whole", "_law_word_here", "_law_near", "_law_at", "_law_found", "_law_great", "_law_turn", "_law_sign", "_law_due", "_law_signs", "_law_one", "_law_other", "_law_rows", "_law_goal", "_law_longer", "_law_some", "_law_ends"]) (sc := (defScope s_law)) (by decide +kernel)) (fun _ _ _ _ _ => (pg_name (i := 14) nd rfl (Or.inl rfl))) (fun _ _ _ _ _ => pts_one (PW.pt (pw_and (pt_cmpR op_notIn_sign (pv 14) (pv 22) rfl) (pw_and1 (pt_val (pcall DF GF (hr.mono (by decide)) (pa_cons (pv 12) (pa_cons (pe_ix (r := rIxS) ix_str (pv 22) (pe_un un_neg pe_int) (fun _ _ => rfl)) (pa_cons (pv 14) pa_nil)))))))))
        (fun _ _ _ _ _ => (pe_op op_add_str (pv 22) (pv 14))))))))
      (pss_cons (ps_set (i := 19) nd rfl (Or.inl rfl) (pv 21))
      (pss_cons (ps_setLc (i := 23) (own := [("_law_some", 22)]) (g := gName 22) (tt := _) rfl nd rfl rfl (sw_true rfl rfl rfl (by decide +kernel)) (pi_list (pv 19)) (blkOk_by (N := ["_law_script", "_law_row", "_law_company_here", "_law_length", "_law_told", "_law_friendly", "_law_shy", "_law_whole", "_law_word_here", "_law_near", "_law_at", "_law_found", "_law_great", "_law_turn", "_law_sign", "_law_due", "_law_signs", "_law_one", "_law_other", "_law_rows", "_law_goal", "_law_longer", "_law_some", "_law_ends"]) (sc := (defScope s_law)) (by decide +kernel)) (fun _ _ _ _ _ => (pg_name (i := 22) nd rfl (Or.inl rfl))) (fun _ _ _ _ _ => pts_one (pt_cmpR op_eq (pe_ix (r := rIxS) ix_str (pv 22) (pe_un un_neg pe_int) (fun _ _ => rfl)) (pv 18) (nomark _)))
        (fun _ _ _ _ _ => (pv 22)))
      (pss_one (ps_set (i := 20) nd rfl (Or.inl rfl) (pe_ifExp (PW.pt (pw_and (pt_cmpR op_isN (pv 20) pe_non (nomark _)) (pw_and1 (pt_cmpR (op_neD hr.units) (pv 23) (pe_lst pa_nil) (nomark _))))) (pe_ix ix_list (pv 23) pe_int (fun _ _ => rfl)) (pv 20)))))))))
      (pss_one (ps_ret (pcall DX GX (hr.mono (by decide)) (pa_cons (pcall Dsw Gsw (hr.mono (by decide)) (pa_cons (pv 12) (pa_cons (pv 17) (pa_cons (pv 18) pa_nil)))) (pa_cons (pv 20) pa_nil))))))))))))))))))))), ?_⟩
    refine q_asgL (el_lst (ea_cons (ev_var rfl) (ea_cons ev_c (ea_cons ev_c (ea_cons ev_c ea_nil)))) (show 4 ≤ 100000 by decide)) fun r H1 hr e1 hr1 => ?_
    have ra1 : RowAt K H1 r := ⟨sc, ns, 0, 7646, 0, hr1, Int.le_refl 0, ex_l e1 hS⟩
    refine q_company (m := 4) ra1 (ea_cons (ev_var rfl) (ea_cons ev_c ea_nil)) (by decide) (by decide) fun c n ps H2 co hn g2 hc2 => ?_
    have hn2 := co.lo
    have hL : 1 ≤ lenOf n ∧ lenOf n ≤ 7 := by
      obtain rfl | rfl | rfl : n = 2 ∨ n = 3 ∨ n = 4 := by omega
      · decide
      · decide
      · decide
    refine qr_asg g2.2 (evr_add1 (evr_taken (m := lenOf n) (fun H3 g => ev_var rfl) (fun H3 g => ev_lenOf (fun H4 e4 => ev_co0 (ev_var rfl) ((hc2.mono (g.tu g2.2)).mono (tu_ex e4))) hn2 hn) hL.1 (by omega))) fun v H3 g3 hv => ?_
    obtain ⟨t, ht, rfl⟩ := hv
    have ht7 : t ≤ 6 := by omega
    have hc3 := hc2.mono (g3.tu g2.2)
    refine q_drawn g3.2 (ea_cons (ev_var rfl) (ea_cons (ev_var rfl) ea_nil)) co hc3 fun kd ls s H4 ki g4 hk4 => ?_
    have hc4 := hc3.mono (g4.tu g3.2)
    have ra4 := g4.2
    clear g2 hc2 g3 hc3 g4 ra1
    have n8 : n ≤ 8 := by omega
    obtain ⟨KD, hKD⟩ : ∃ f : List Nat → Bool, f = fun w => decide (oddL n w = ls ∧ cntK n ps w % 2 = s) := ⟨_, rfl⟩
    obtain ⟨FA, hFA⟩ : ∃ f : List Nat → Bool, f = fun w => adj (fr ps) w && KD w := ⟨_, rfl⟩
    obtain ⟨FB, hFB⟩ : ∃ f : List Nat → Bool, f = fun w => adj (Rf ps false) w && KD w := ⟨_, rfl⟩
    obtain ⟨FC, hFC⟩ : ∃ f : List Nat → Bool, f = fun w => adj (fr ps) w := ⟨_, rfl⟩
    refine q_forNLn (xs := vW (allw n (t + 1))) (el_call (vs := [.ref c, .int ((t + 1 : Nat) : Int)]) (ea_cons (ev_var rfl) (ea_cons (ev_var rfl) ea_nil)) fun H5 e5 Q' q' E' => ⟨c, n, ps, t + 1, rfl, co, hc4.mono (tu_ex e5), hn, by omega, fun p H6 hp e6 h6 => q' p H6 hp e6 h6⟩)
      (fun p i σ' H' => ∃ x8 x9, σ' = [some (.ref sc), some (.ref r), some (.ref c), some (.int ((t + 1 : Nat) : Int)), some (.ref kd), some (.int ((((allw n (t + 1)).take i).filter FA).length : Nat)), some (.int ((((allw n (t + 1)).take i).filter FB).length : Nat)), some (.int ((((allw n (t + 1)).take i).filter FC).length : Nat)), x8, x9, none, none, none, none, none, none, none, none, none, none, none, none, none, none] ∧ Ex H4 H' ∧ H' p = some (.lst (vW (allw n (t + 1))))) (fun p H5 hp e5 h5 => ⟨_, _, rfl, e5, h5⟩) (fun p i σ' H' _ pp => by obtain ⟨_, _, _, _, h⟩ := pp; exact sq_of h) ?_ ?_
    · rintro p i x σ' H5 hx ⟨x8, x9, rfl, e5, h5⟩
      obtain ⟨w, hw⟩ : ∃ w, (allw n (t + 1))[i]? = some w := by
        cases h : (allw n (t + 1))[i]? with
        | none => rw [List.getElem?_map, h] at hx; cases hx
        | some w => exact ⟨w, rfl⟩
      rw [List.getElem?_map, hw] at hx
      obtain rfl := Option.some.inj hx
      obtain ⟨hwl, hwn⟩ := allw_mem (t + 1) w (List.mem_of_getElem? hw)
      have hw8 : ∀ x ∈ w, x < 8 := fun x hx => Nat.lt_of_lt_of_le (hwn x hx) n8
      have hz : w.length ≤ sizeLine := Nat.le_trans (show w.length ≤ 100 by omega) (by decide)
      have gA := filt_snoc (p := FA) hw
      have gB := filt_snoc (p := FB) hw
      have gC := filt_snoc (p := FC) hw
      revert gA gB gC
      generalize (((allw n (t + 1)).take (i + 1)).filter FA).length = A'
      generalize (((allw n (t + 1)).take (i + 1)).filter FB).length = B'
      generalize (((allw n (t + 1)).take (i + 1)).filter FC).length = C'
      generalize (((allw n (t + 1)).take i).filter FA).length = A0
      generalize (((allw n (t + 1)).take i).filter FB).length = B0
      generalize (((allw n (t + 1)).take i).filter FC).length = C0
      intro gA gB gC
      have at_ : ∀ (i : Nat), i < t + 1 → w[i]? = some (w.getD i 0) := fun i hi => by rw [List.getD_eq_getElem?_getD, List.getElem?_eq_getElem (by omega)]; rfl
      have at8 : ∀ (i : Nat), i < t + 1 → w.getD i 0 < 8 := fun i hi => hw8 _ (List.mem_of_getElem? (at_ i hi))
      have rng : ∀ (σ : L2.St) (H : Hp), σ[3]? = some (some (.int ((t + 1 : Nat) : Int))) → EvI K (iRng1 (tCons (tOp (rI0 fun i j => .int (i - j)) (tVar 3) (tC (.int 1))) tNil)) σ H ((List.range t).map fun i => .int ((i : Nat) : Int)) := fun σ H h3 => by
        have := ei_rng1 (K := K) (σ := σ) (H := H) (ta := tCons (tOp (rI0 fun i j => .int (i - j)) (tVar 3) (tC (.int 1))) tNil) (n := (t : Nat)) (ea_cons (ev_is (ev_op (ev_var h3) ev_c rv_I0) (congrArg V.int (show ((t + 1 : Nat) : Int) - 1 = (t : Nat) by omega))) ea_nil) (by omega) (by omega)
        rw [vInts_nat, Int.toNat_natCast] at this
        exact this
      have nearE : (List.range t).map (fun i => V.bl (fr ps (w.getD i 0) (w.getD (i + 1) 0))) = (nearL (fr ps) w).map V.bl := by
        unfold nearL
        rw [List.map_map, hwl]
        rfl
      refine q_asgL (xs := (nearL (fr ps) w).map V.bl) ?_ fun nr H6 hnr e6 h6 => ?_
      · rw [← nearE]
        refine el_lcA (K := K) (List.range t) (fun i => .int ((i : Nat) : Int)) (fun i => V.bl (fr ps (w.getD i 0) (w.getD (i + 1) 0))) (rng _ _ rfl) (by rw [List.length_range]; exact Nat.le_trans (show t ≤ 100 by omega) (by decide)) (fun _ => rfl) fun i hi H6 e6 => ?_
        have hi := List.mem_range.mp hi
        exact ev_frS (ea_cons (ev_var rfl) (ea_cons (ev_wSat (ev_var rfl) (ev_var rfl) (at_ i (by omega)) hz) (ea_cons (ev_wSat (i := i + 1) (ev_var rfl) (ev_is (ev_op (ev_var rfl) ev_c rv_I0) rfl) (at_ (i + 1) (by omega)) hz) ea_nil))) co (hc4.mono (tu_ex (e5.trans e6))) (at8 i (by omega)) (at8 (i + 1) (by omega))
      have ninF : ∀ (σ : L2.St) (H7 : Hp), Ex H6 H7 → σ[9]? = some (some (.ref nr)) → Ev (tOp (rIn K true) (tC (.bl false)) (tVar 9)) σ H7 (.bl (adj (fr ps) w)) := fun σ H7 e7 h9 => ev_is (ev_op ev_c (ev_var h9) (rv_niL (sq_of (e7 _ _ h6)) rfl (flat_bls _))) (congrArg V.bl ((notin_false _).trans (near_all w)))
      have ninT : ∀ (σ : L2.St) (H7 : Hp), Ex H6 H7 → σ[9]? = some (some (.ref nr)) → Ev (tOp (rIn K true) (tC (.bl true)) (tVar 9)) σ H7 (.bl (adj (fun x y => !fr ps x y) w)) := fun σ H7 e7 h9 => ev_is (ev_op ev_c (ev_var h9) (rv_niL (sq_of (e7 _ _ h6)) rfl (flat_bls _))) (congrArg V.bl ((notin_true _).trans (near_map (fun _ _ => rfl) w)))
      refine q_asg (v := .int (C' : Nat)) (ev_is (ev_op (ev_var rfl) (ev_intB (ninF _ _ (Ex.refl _) rfl)) rv_I0) (congrArg V.int ?_)) fun H7 e7 => ?_
      · rw [gC, hFC]
        show (C0 : Int) + (if adj (fr ps) w = true then 1 else 0) = ((C0 + if adj (fr ps) w = true then 1 else 0 : Nat) : Int)
        split <;> omega
      have e57 := (e5.trans e6).trans e7
      refine s_when (b := KD w) (et_is (et_kind (ea_cons (ev_var rfl) (ea_cons (ev_var rfl) ea_nil)) (ev_var rfl) co (hc4.mono (tu_ex e57)) (hk4.mono (tu_ex e57)) ki hwn (by omega)) (by rw [hKD])) (fun hb H8 e8 => ?_) (fun hb H8 e8 => ?_)
      · refine q_asg (v := .int (A' : Nat)) (ev_is (ev_op (ev_var rfl) (ev_intB (ninF _ _ (e7.trans e8) rfl)) rv_I0) (congrArg V.int ?_)) fun H9 e9 => ?_
        · rw [gA, hFA]
          show (A0 : Int) + (if adj (fr ps) w = true then 1 else 0) = ((A0 + if (adj (fr ps) w && KD w) = true then 1 else 0 : Nat) : Int)
          rw [hb, Bool.and_true]
          split <;> omega
        refine s_asg (v := .int (B' : Nat)) (ev_is (ev_op (ev_var rfl) (ev_intB (b := adj (Rf ps false) w) (ev_is (ev_andV (ninT _ _ ((e7.trans e8).trans e9) rfl) fun _ => ev_eqNil (is := (List.range t).filter fun i => decide (w.getD i 0 = w.getD (i + 1) 0)) (el_lc (K := K) (List.range t) (fun i => .int ((i : Nat) : Int)) (fun i => decide (w.getD i 0 = w.getD (i + 1) 0)) (fun i => .int ((i : Nat) : Int)) (rng _ _ rfl) (by rw [List.length_range]; exact Nat.le_trans (show t ≤ 100 by omega) (by decide)) (fun _ => rfl) (fun i hi H10 e10 => ?_) (fun i hi _ H10 e10 => ev_var rfl)) (el_lst ea_nil (by decide))) (congrArg V.bl ?_))) rv_I0) (congrArg V.int ?_)) fun H10 e10 => ⟨_, _, rfl, (((e57.trans e8).trans e9).trans e10), ?_⟩
        · have hi := List.mem_range.mp hi
          exact et_is (et_test (ev_op (ev_wSat (ev_var rfl) (ev_var rfl) (at_ i (by omega)) hz) (ev_wSat (i := i + 1) (ev_var rfl) (ev_is (ev_op (ev_var rfl) ev_c rv_I0) rfl) (at_ (i + 1) (by omega)) hz) (rv_eq rfl))) sg_eqV
        · rw [← adj_false w, hwl]
          rfl
        · rw [gB, hFB]
          show (B0 : Int) + (if adj (Rf ps false) w = true then 1 else 0) = ((B0 + if (adj (Rf ps false) w && KD w) = true then 1 else 0 : Nat) : Int)
          rw [hb, Bool.and_true]
          split <;> omega
        · exact ((((e6.trans e7).trans e8).trans e9).trans e10) _ _ h5
      · have a0 : A' = A0 := by rw [gA, hFA]; simp [hb]
        have b0 : B' = B0 := by rw [gB, hFB]; simp [hb]
        rw [a0, b0]
        exact ⟨_, _, rfl, e57.trans e8, ((e6.trans e7).trans e8) _ _ h5⟩
    · rintro p σ' H5 ⟨x8, x9, rfl, e5, h5⟩
      rw [show (vW (allw n (t + 1))).length = (allw n (t + 1)).length from List.length_map _, List.take_length]
      have vA : cnt n ps true t (psum ls) s = ((allw n (t + 1)).filter FA).length := by
        rw [cnt_is co ki, hFA, hKD]
        congr 1
        refine List.filter_congr fun w _ => ?_
        rw [adj_true co]
      have vB : cnt n ps false t (psum ls) s = ((allw n (t + 1)).filter FB).length := by
        rw [cnt_is co ki, hFB, hKD]
      have vC : (paths n (Rf ps true) t).length = ((allw n (t + 1)).filter FC).length := by
        rw [paths_are, hFC]
        congr 1
        exact List.filter_congr fun w _ => adj_true co w
      revert vA vB vC
      generalize ((allw n (t + 1)).filter FA).length = A'
      generalize ((allw n (t + 1)).filter FB).length = B'
      generalize ((allw n (t + 1)).filter FC).length = C'
      intro vA vB vC
      subst vA vB vC
      have hc5 := hc4.mono (tu_ex e5)
      have hk5 := hk4.mono (tu_ex e5)
      refine q_asgL (el_lst (ea_cons (ev_call (vs := [.ref c, .ref kd, .int ((t + 1 : Nat) : Int)]) (z := .int (cnt n ps true t (psum ls) s : Nat)) (ea_cons (ev_var rfl) (ea_cons (ev_var rfl) (ea_cons (ev_var rfl) ea_nil))) fun H6 e6 Q' q' E' => ⟨c, kd, n, ps, ls, s, t, rfl, co, hc5.mono (tu_ex e6), hk5.mono (tu_ex e6), ki, hn, by omega, q'⟩)
        (ea_cons (ev_call (vs := [.ref c, .ref kd, .int ((t + 1 : Nat) : Int)]) (z := .int (cnt n ps false t (psum ls) s : Nat)) (ea_cons (ev_var rfl) (ea_cons (ev_var rfl) (ea_cons (ev_var rfl) ea_nil))) fun H6 e6 Q' q' E' => ⟨c, kd, n, ps, ls, s, t, rfl, co, hc5.mono (tu_ex e6), hk5.mono (tu_ex e6), ki, hn, by omega, q'⟩)
        (ea_cons (ev_call (vs := [.ref c, .int ((t + 1 : Nat) : Int)]) (z := .int ((paths n (Rf ps true) t).length : Nat)) (ea_cons (ev_var rfl) (ea_cons (ev_var rfl) ea_nil)) fun H6 e6 Q' q' E' => ⟨c, n, ps, t, rfl, co, hc5.mono (tu_ex e6), hn, by omega, q'⟩) ea_nil))) (show 3 ≤ 100000 by decide)) fun fd0 H6 hfd e6 h6 => ?_
      refine q_when (b := false) (et_alike1 (ns := [((cnt n ps true t (psum ls) s : Nat) : Int), ((cnt n ps false t (psum ls) s : Nat) : Int), (((paths n (Rf ps true) t).length : Nat) : Int)]) (ev_var rfl) h6 (el_lst (ea_cons (ev_var rfl) (ea_cons (ev_var rfl) (ea_cons (ev_var rfl) ea_nil))) (show 3 ≤ 100000 by decide)) (show 3 ≤ 100 by decide)) (fun z => Bool.noConfusion z) fun _ H7 e7 => ?_
      have ra7 : RowAt K H7 r := ra4.ex ((e5.trans e6).trans e7)
      generalize ((cnt n ps true t (psum ls) s : Nat) : Int) = vA
      generalize ((cnt n ps false t (psum ls) s : Nat) : Int) = vB
      generalize (((paths n (Rf ps true) t).length : Nat) : Int) = vC
      clear h6 e7 e6 hc5 hk5 h5 e5 ra4 hc4 hk4
      refine q_company (m := 8) ra7 (ea_cons (ev_var rfl) (ea_cons ev_c ea_nil)) (by decide) (by decide) fun gc gn gp H8 gco gn8 g8 hc8 => ?_
      refine q_word (m := 20) g8.2 (ea_cons (ev_var rfl) (ea_cons (ev_var rfl) (ea_cons ev_c ea_nil))) gco hc8 (by decide) (by decide) fun u0 H9 hu1 hu2 hu3 g9 => ?_
      have hc9 := hc8.mono (g9.tu g8.2)
      have ra9 := g9.2
      have gl := gco.lo
      have une : ∀ u : List Nat, 1 ≤ u.length → u ≠ [] := fun u h z => by rw [z] at h; cases h
      have lastlt : ∀ u : List Nat, 1 ≤ u.length → (∀ x ∈ u, x < gn) → lastN u < gn := fun u h1 h2 => h2 _ (by
        unfold lastN
        rw [List.getLastD_eq_getLast?, List.getLast?_eq_some_getLast (une u h1)]
        exact List.getLast_mem (une u h1))
      refine qr_ifC (Pb := fun _ => True) (fun σ' H' => ∃ u x9 x13, σ' = [some (.ref sc), some (.ref r), some (.ref c), some (.int ((t + 1 : Nat) : Int)), some (.ref kd), some (.int vA), some (.int vB), some (.int vC), some (.str (wS u)), x9, none, some (.ref fd0), some (.ref gc), x13, none, none, none, none, none, none, none, none, none, none] ∧ Go K r H9 H' ∧ (∀ x ∈ u, x < gn) ∧ 1 ≤ u.length ∧ u.length ≤ 60) ra9 (etr_eq0 (m := 2) (evr_taken (fun H g => ev_var rfl) (fun H g => ev_c) (by omega) (by omega))) (fun H10 g10 cont => ?_) (fun H10 g10 => ⟨u0, _, _, rfl, g10, hu1, hu2, by omega⟩) ?_
      · refine s_forR1 (n := 6) (ea_cons ev_c ea_nil) (by decide) (fun _ σ' H' => ∃ u x9 x13, σ' = [some (.ref sc), some (.ref r), some (.ref c), some (.int ((t + 1 : Nat) : Int)), some (.ref kd), some (.int vA), some (.int vB), some (.int vC), some (.str (wS u)), x9, none, some (.ref fd0), some (.ref gc), x13, none, none, none, none, none, none, none, none, none, none] ∧ Go K r H9 H' ∧ (∀ x ∈ u, x < gn) ∧ 1 ≤ u.length ∧ u.length ≤ 60) (fun H11 e11 => ⟨u0, _, _, rfl, g10.then e11, hu1, hu2, by omega⟩) ?_ cont
        rintro i σ' H11 hi ⟨u, x9, x13, rfl, g11, h1, h2, h3⟩
        have hc11 := hc9.mono (g11.tu ra9)
        have hl := lastlt u h2 h1
        have hnear := has_friend gco hl
        have hz : u.length ≤ sizeLine := Nat.le_trans h3 (by decide)
        refine q_asgL (el_lc (K := K) (List.range gn) (fun a => .str (sg a)) (fun a => fr gp a (lastN u)) (fun a => .str (sg a)) (ei_wS (ev_alphaN ev_c (ev_co0 (ev_var rfl) hc11) gn8)) (by rw [List.length_range]; exact Nat.le_trans gn8 (by decide)) (fun _ => rfl)
          (fun a ha H12 e12 => et_B (ev_frS (ea_cons (ev_var rfl) (ea_cons (ev_var rfl) (ea_cons (ev_last (ev_var rfl) (une u h2) hz) ea_nil))) gco (hc11.mono (tu_ex e12)) (by have := List.mem_range.mp ha; omega) (by omega))) (fun a ha _ H12 e12 => ev_var rfl)) fun nl H12 hnl e12 h12 => ?_
        have hne : nl ≠ r := (go_none ra9 g11 hnl).2
        refine sr_asg (g11.2.ex e12) (evr_catS (p := u.drop (u.length - 3)) (l := (List.range gn).filter fun a => fr gp a (lastN u)) (fun H13 g13 => ev_is (ev_slS (ev_var rfl) (eo_some (ev_un ev_c ru_neg)) eo_none (by rw [wS_len]; exact hz)) (congrArg V.str cutS_last3)) (evr_pick (fun H13 g13 => ea_cons (ev_var rfl) (ea_cons (ev_var rfl) ea_nil)) (.inr ⟨nl, rfl, hne, h12⟩) hnear (Nat.le_trans (List.length_filter_le _ _) (by rw [List.length_range]; omega))) (by rw [List.length_drop]; omega)) fun v H13 g13 hv => ?_
        obtain ⟨a, ha, rfl⟩ := hv
        refine ⟨u.drop (u.length - 3) ++ [a], _, _, rfl, (g11.then e12).trans g13, fun x hx => ?_, by rw [List.length_append]; show 1 ≤ _ + 1; omega, by rw [List.length_append, List.length_drop]; show _ + 1 ≤ 60; omega⟩
        rcases List.mem_append.mp hx with hx | hx
        · exact h1 x (List.mem_of_mem_drop hx)
        · obtain rfl : x = a := by simpa using hx
          exact List.mem_range.mp (List.mem_filter.mp ha).1
      · rintro σ' H10 ⟨u, x9, x13, rfl, g10, h1, h2, h3⟩
        have hc10 := hc9.mono (g10.tu ra9)
        have ra10 := g10.2
        have hz : u.length ≤ sizeLine := Nat.le_trans h3 (by decide)
        have at_ : ∀ (i : Nat), i < u.length → u[i]? = some (u.getD i 0) := fun i hi => by rw [List.getD_eq_getElem?_getD, List.getElem?_eq_getElem hi]; rfl
        have at8 : ∀ (i : Nat), i < u.length → u.getD i 0 < 8 := fun i hi => Nat.lt_of_lt_of_le (h1 _ (List.mem_of_getElem? (at_ i hi))) gn8
        have rng : ∀ (σ : L2.St) (H : Hp), σ[8]? = some (some (.str (wS u))) → EvI K (iRng1 (tCons (tOp (rI0 fun i j => .int (i - j)) (tCB rLenZ (tCons (tVar 8) tNil)) (tC (.int 1))) tNil)) σ H ((List.range (u.length - 1)).map fun i => .int ((i : Nat) : Int)) := fun σ H h8 => by
          have := ei_rng1 (K := K) (σ := σ) (H := H) (n := (u.length : Int) - 1) (ea_cons (ev_op (ev_lenS (ev_var h8) hz) ev_c (rv_I0 (g := fun i j => V.int (i - j)))) ea_nil) (by omega) (by omega)
          rw [vInts_nat, show ((u.length : Int) - 1).toNat = u.length - 1 by omega] at this
          exact this
        refine q_asg (v := .bl (adj (fr gp) u)) (ev_is (ev_eqNil (is := (List.range (u.length - 1)).filter fun i => !fr gp (u.getD i 0) (u.getD (i + 1) 0)) (el_lc (K := K) (List.range (u.length - 1)) (fun i => .int ((i : Nat) : Int)) (fun i => !fr gp (u.getD i 0) (u.getD (i + 1) 0)) (fun i => .int ((i : Nat) : Int)) (rng _ _ rfl) (by rw [List.length_range]; exact Nat.le_trans (show u.length - 1 ≤ 100 by omega) (by decide)) (fun _ => rfl) (fun i hi H11 e11 => ?_) (fun i _ _ H11 e11 => ev_var rfl)) (el_lst ea_nil (by decide))) (congrArg V.bl (due_is u))) fun H11 e11 => ?_
        · have hi := List.mem_range.mp hi
          exact et_not (et_B (ev_frS (ea_cons (ev_var rfl) (ea_cons (ev_wSat (ev_var rfl) (ev_var rfl) (at_ i (by omega)) hz) (ea_cons (ev_wSat (i := i + 1) (ev_var rfl) (ev_is (ev_op (ev_var rfl) ev_c rv_I0) rfl) (at_ (i + 1) (by omega)) hz) ea_nil))) gco (hc10.mono (tu_ex e11)) (at8 i (by omega)) (at8 (i + 1) (by omega))))
        refine q_when (b := false) (et_not (a := true) (et_B (ev_alike0 (v := .bl (adj (fr gp) u)) (ea_cons (ev_call (vs := [.ref gc, .str (wS u)]) (ea_cons (ev_var rfl) (ea_cons (ev_var rfl) ea_nil)) fun H12 e12 Q' q' E' => ⟨gc, gn, gp, u, rfl, gco, hc10.mono (tu_ex (e11.trans e12)), h1, h2, h3, q'⟩) (ea_cons (ev_var rfl) ea_nil)) (.inr (.inl ⟨_, rfl⟩))))) (fun z => Bool.noConfusion z) fun _ H12 e12 => ?_
        refine q_asg (ev_alphaN ev_c (ev_co0 (ev_var rfl) (hc10.mono (tu_ex (e11.trans e12)))) gn8) fun H13 e13 => ?_
        have ra13 := ((ra10.ex e11).ex e12).ex e13
        have hc13 := hc10.mono (tu_ex ((e11.trans e12).trans e13))
        refine q_picks ra13 (evr_pick (u := List.range gn) (fun H14 g14 => ea_cons (ev_var rfl) (ea_cons (ev_var rfl) ea_nil)) (.inl rfl) (by rw [List.length_range]; omega) (by rw [List.length_range]; omega)) (evr_pick (u := List.range gn) (fun H14 g14 => ea_cons (ev_var rfl) (ea_cons (ev_var rfl) ea_nil)) (.inl rfl) (by rw [List.length_range]; omega) (by rw [List.length_range]; omega)) fun v w H14 g14 hv hw => ?_
        obtain ⟨a, ha, rfl⟩ := hv
        obtain ⟨b, hb, rfl⟩ := hw
        replace ha := List.mem_range.mp ha
        replace hb := List.mem_range.mp hb
        have hc14 := hc13.mono (g14.tu ra13)
        refine q_parL (xs := vW [[a]]) (v := vG (goalAt gn gp a b 0)) (el_lst (ea_cons (ev_var rfl) ea_nil) (show 1 ≤ 100000 by decide)) ?_ fun p0 H15 hp0 e15 h15 => ?_
        · have hg0 : goalAt gn gp a b 0 = if a = b then some [a] else none := by
            show ((([[a]] : List (List Nat)).filter fun u => decide (lastN u = b))).head? = _
            rw [List.filter_cons]
            by_cases h : a = b
            · rw [if_pos h, if_pos (decide_eq_true (show lastN [a] = b from h))]
              rfl
            · rw [if_neg h, if_neg (by rw [decide_eq_false (show ¬ lastN [a] = b from h)]; decide)]
              rfl
          refine ev_if (b := decide (a = b)) (et_is (et_test (ev_op (ev_var rfl) (ev_var rfl) (rv_eq rfl))) sg_eqV) (fun h => ?_) (fun h => ?_)
          · rw [hg0, if_pos (of_decide_eq_true h)]
            exact ev_var rfl
          · rw [hg0, if_neg (of_decide_eq_false h)]
            exact ev_c
        have hc15 := hc14.mono (tu_ex e15)
        refine q_forR1 (n := (gn : Nat)) (ea_cons (ev_co0 (ev_var rfl) hc15) ea_nil) (by omega) (fun t' σ' H' => ∃ p x13 x21 x22 x23, σ' = [some (.ref sc), some (.ref r), some (.ref c), some (.int ((t + 1 : Nat) : Int)), some (.ref kd), some (.int vA), some (.int vB), some (.int vC), some (.str (wS u)), x9, none, some (.ref fd0), some (.ref gc), x13, none, some (.bl (adj (fr gp) u)), some (.str (wS (List.range gn))), some (.str (sg a)), some (.str (sg b)), some (.ref p), some (vG (goalAt gn gp a b t')), x21, x22, x23] ∧ Ex H15 H' ∧ H' p = some (.lst (vW (rows gn gp a t')))) (fun H16 e16 => ⟨p0, _, _, _, _, rfl, e16, e16 _ _ h15⟩) ?_ ?_
        · rintro t' σ' H16 ht' ⟨p, x13, x21, x22, x23, rfl, e16, h16⟩
          have ht' : t' < gn := by omega
          have hR : ∀ k, ∀ w ∈ rows gn gp a k, w.length = k + 1 ∧ w ≠ [] ∧ (∀ x ∈ w, x < gn) ∧ lastN w < gn := fun k w hw => by
            obtain ⟨r1, _, r3⟩ := rows_nodup ha k w hw
            exact ⟨r1, une w (by omega), r3, lastlt w (by omega) r3⟩
          have hpow : ∀ k, k ≤ 8 → gn ^ k ≤ sizeLine := fun k hk => Nat.le_trans (Nat.le_trans (Nat.pow_le_pow_left gn8 _) (Nat.pow_le_pow_right (by decide) hk)) (by decide)
          refine q_asgL (el_lst ea_nil (by decide)) fun L H17 hL e17 hL17 => ?_
          refine q_forLn (a := p) (xs := vW (rows gn gp a t')) (ev_var rfl) (sq_of (e17 _ _ h16)) (fun j σ' H' => ∃ q x22, σ' = [some (.ref sc), some (.ref r), some (.ref c), some (.int ((t + 1 : Nat) : Int)), some (.ref kd), some (.int vA), some (.int vB), some (.int vC), some (.str (wS u)), x9, none, some (.ref fd0), some (.ref gc), some (.int (t' : Nat)), none, some (.bl (adj (fr gp) u)), some (.str (wS (List.range gn))), some (.str (sg a)), some (.str (sg b)), some (.ref p), some (vG (goalAt gn gp a b t')), some (.ref q), x22, x23] ∧ Ex H17 H' ∧ H' q = some (.lst (vW (sgrow gn gp ((rows gn gp a t').take j))))) (fun H18 e18 => ⟨L, _, rfl, e18, e18 _ _ hL17⟩) (fun j σ' H' _ pp => by obtain ⟨_, _, _, e, _⟩ := pp; exact sq_of (e _ _ (e17 _ _ h16))) ?_ ?_
          · rintro j x σ' H18 hx ⟨q, x22, rfl, e18, h18⟩
            obtain ⟨w, hw⟩ : ∃ w, (rows gn gp a t')[j]? = some w := by
              cases h : (rows gn gp a t')[j]? with
              | none => rw [List.getElem?_map, h] at hx; cases hx
              | some w => exact ⟨w, rfl⟩
            rw [List.getElem?_map, hw] at hx
            obtain rfl := Option.some.inj hx
            have hjl := (List.getElem?_eq_some_iff.mp hw).1
            obtain ⟨w1, w2, w3, w4⟩ := hR t' w (List.mem_of_getElem? hw)
            have wz : w.length ≤ sizeLine := Nat.le_trans (show w.length ≤ 100 by omega) (by decide)
            refine s_asgL (el_cat (ev_var rfl) h18 (el_lc (K := K) (List.range gn) (fun a => .str (sg a)) (sOk gp w) (fun a => .str (wS (w ++ [a]))) (ei_wS (ev_var rfl)) (by rw [List.length_range]; exact Nat.le_trans gn8 (by decide)) (fun _ => rfl)
              (fun x hx H19 e19 => et_and (et_test (ev_notinS (ev_var rfl) (ev_var rfl))) fun _ => et_B (ev_frS (ea_cons (ev_var rfl) (ea_cons (ev_last (ev_var rfl) w2 wz) (ea_cons (ev_var rfl) ea_nil))) gco (hc15.mono (tu_ex (((e16.trans e17).trans e18).trans e19))) (by omega) (by have := List.mem_range.mp hx; omega)))
              (fun x hx _ H19 e19 => ev_catS (u := w) (v := [x]) (ev_var rfl) (ev_var rfl) (Nat.le_trans (show w.length + 1 ≤ 101 by omega) (by decide)))) ?_) fun q2 H19 hq2 e19 h19 => ⟨q2, _, rfl, e18.trans e19, ?_⟩
            · rw [List.length_map, List.length_map]
              have b1 := grow_len (n := gn) ((rows gn gp a t').take j) (sOk gp)
              rw [List.length_take, Nat.min_eq_left (by omega)] at b1
              have b2 := List.length_filter_le (sOk gp w) (List.range gn)
              rw [List.length_range] at b2
              have b3 := Nat.mul_le_mul_right gn (show j + 1 ≤ (rows gn gp a t').length by omega)
              have b4 := Nat.mul_le_mul_right gn (rows_len (n := gn) (ps := gp) (a := a) t')
              have b5 := hpow (t' + 1) (by omega)
              rw [Nat.succ_mul] at b3
              rw [Nat.pow_succ] at b5
              have b6 : (sgrow gn gp ((rows gn gp a t').take j)).length ≤ j * gn := b1
              omega
            · rw [h19, take_snoc hw]
              unfold sgrow
              rw [List.flatMap_append]
              simp
          · rintro σ' H18 ⟨q, x22, rfl, e18, h18⟩
            rw [List.length_map, List.take_length] at h18
            replace h18 : H18 q = some (.lst (vW (rows gn gp a (t' + 1)))) := h18
            refine q_asg (ev_var rfl) fun H19 e19 => ?_
            refine q_asgL (xs := vW (ends gn gp a b (t' + 1))) (el_lc (K := K) (rows gn gp a (t' + 1)) (fun w => .str (wS w)) (fun w => decide (lastN w = b)) (fun w => .str (wS w)) (ei_list (ev_var rfl) (sq_of (e19 _ _ h18))) (Nat.le_trans (rows_len _) (hpow _ (by omega))) (fun _ => rfl)
              (fun w hw H20 e20 => et_is (et_test (ev_op (ev_last (ev_var rfl) (hR _ w hw).2.1 (Nat.le_trans (show w.length ≤ 100 by have := (hR _ w hw).1; omega) (by decide))) (ev_var rfl) (rv_eq rfl))) sg_eqV) (fun w hw _ H20 e20 => ev_var rfl)) fun en H20 hen e20 h20 => ?_
            have wok : WOk (ends gn gp a b (t' + 1)) := fun w hw x hx => Nat.lt_of_lt_of_le ((hR _ w (List.mem_filter.mp hw).1).2.2.1 x hx) gn8
            have gs : goalAt gn gp a b (t' + 1) = match goalAt gn gp a b t' with | some u => some u | none => (ends gn gp a b (t' + 1)).head? := rfl
            refine s_asg (v := vG (goalAt gn gp a b (t' + 1))) (ev_if (b := (goalAt gn gp a b t').isNone && !(ends gn gp a b (t' + 1)).isEmpty) (et_and (et_is (et_isN (x := vG (goalAt gn gp a b t')) (ev_var rfl)) vG_none) fun _ => et_neNil (ev_var rfl) h20 (el_lst ea_nil (by decide)) wok) (fun h => ?_) (fun h => ?_)) fun H21 e21 => ⟨q, _, _, _, _, rfl, ((((e16.trans e17).trans e18).trans e19).trans e20).trans e21, e21 _ _ (e20 _ _ (e19 _ _ h18))⟩
            · rw [gs]
              cases hg : goalAt gn gp a b t' with
              | some z => rw [hg] at h; cases h
              | none =>
                cases hE : ends gn gp a b (t' + 1) with
                | nil => rw [hE, Bool.and_comm] at h; cases h
                | cons z l =>
                  rw [hE] at h20
                  exact ev_op (ev_var rfl) ev_c (rv_ixL (i := ((0 : Nat) : Int)) (sq_of h20) (atI_nat rfl))
            · have ge : goalAt gn gp a b (t' + 1) = goalAt gn gp a b t' := by
                rw [gs]
                cases hg : goalAt gn gp a b t' with
                | some z => rfl
                | none =>
                  cases hE : ends gn gp a b (t' + 1) with
                  | nil => rfl
                  | cons z l => rw [hg, hE] at h; cases h
              rw [ge]
              exact ev_var rfl
        · rintro σ' H16 ⟨p, x13, x21, x22, x23, rfl, e16, h16⟩
          rw [Int.toNat_natCast]
          exact s_ret (ev_alike0 (v := vG (goalAt gn gp a b gn)) (ea_cons (ev_call (vs := [.ref gc, .str (sg a), .str (sg b)]) (ea_cons (ev_var rfl) (ea_cons (ev_var rfl) (ea_cons (ev_var rfl) ea_nil))) fun H17 e17 Q' q' E' => ⟨gc, gn, gp, a, b, rfl, gco, hc15.mono (tu_ex (e16.trans e17)), ha, hb, q'⟩) (ea_cons (ev_var rfl) ea_nil)) (isS_vG _)) fun H17 e17 => k H17
end
end Kw

namespace Kw
open PySem PySem.Spec PyProof.Rows L2 Evl
/-! ### what the top has written, the end -/
theorem df_mk {K : PySem.W.Frag} {h : Heap} {mg : Str → Option Value} {x : Str} {st : Stmt} {ps : List Str} {f : Addr} {oc : Value} {od an : Option Addr} {osl : Array (Option Value)} {kV doc pm cdv ct : Value} (X : K.In h) (G : h.Ns mainGlobals mg) (a : PySem.W.nsIn K mainGlobals x = some (some (.ref f)))
    (l : K.lookup f = some ⟨oc, od, .func (PySem.W.fnOf x x (defArgs st) (defBody st) (defScope st) .none kV doc pm an cdv ct), osl⟩) (c : PySem.W.codeIn K cdv x = true) (k : PySem.W.keepIn K (.ref f) = true)
    (hb : ∀ (kV doc pm : Value) (an : Option Addr) (cdv ct : Value) (us : List Value), us.length = ps.length → bindArgs (PySem.W.fnOf x x (defArgs st) (defBody st) (defScope st) .none kV doc pm an cdv ct) ⟨us, []⟩ = pure (ps.zip us)) :
    Df K mg x st ps f (PySem.W.fnOf x x (defArgs st) (defBody st) (defScope st) .none kV doc pm an cdv ct) := ⟨fun_mk l c k, (fun_mk l c k).binds hb, PySem.W.mg_of X G a⟩
theorem all_mk {l : PySem.W.OpenLaw} {w : World} {K : PySem.W.Frag} {h : Heap} {mg : Str → Option Value} {fa f0 f1 f2 f3 f4 f5 f6 f7 f8 f9 f10 f11 f12 f13 f14 f15 f16 f17 f18 f19 f20 f21 f22 f23 f24 f25 f26 f27 f28 f29 f30 f31 f32 f33 f34 f35 : Addr} (X : K.In h) (G : h.Ns mainGlobals mg) (hfa : mg "law" = some (.ref fa)) {t1 t2 t3 : Tok}
    {od0 an0 od1 an1 od2 an2 od3 an3 od4 an4 od5 an5 od6 an6 od7 an7 od8 an8 od9 an9 od10 an10 od11 an11 od12 an12 od13 an13 od14 an14 od15 an15 od16 an16 od17 an17 od18 an18 od19 an19 od20 an20 od21 an21 od22 an22 od23 an23 od24 an24 od25 an25 od26 an26 od27 an27 od28 an28 od29 an29 od30 an30 od31 an31 od32 an32 od33 an33 od34 an34 od35 an35 : Option Addr} {sl0 sl1 sl2 sl3 sl4 sl5 sl6 sl7 sl8 sl9 sl10 sl11 sl12 sl13 sl14 sl15 sl16 sl17 sl18 sl19 sl20 sl21 sl22 sl23 sl24 sl25 sl26 sl27 sl28 sl29 sl30 sl31 sl32 sl33 sl34 sl35 : Array (Option Value)} {oc0 kV0 dc0 pm0 cd0 ct0 oc1 kV1 dc1 pm1 cd1 ct1 oc2 kV2 dc2 pm2 cd2 ct2 oc3 kV3 dc3 pm3 cd3 ct3 oc4 kV4 dc4 pm4 cd4 ct4 oc5 kV5 dc5 pm5 cd5 ct5 oc6 kV6 dc6 pm6 cd6 ct6 oc7 kV7 dc7 pm7 cd7 ct7 oc8 kV8 dc8 pm8 cd8 ct8 oc9 kV9 dc9 pm9 cd9 ct9 oc10 kV10 dc10 pm10 cd10 ct10 oc11 kV11 dc11 pm11 cd11 ct11 oc12 kV12 dc12 pm12 cd12 ct12 oc13 kV13 dc13 pm13 cd13 ct13 oc14 kV14 dc14 pm14 cd14 ct14 oc15 kV15 dc15 pm15 cd15 ct15 oc16 kV16 dc16 pm16 cd16 ct16 oc17 kV17 dc17 pm17 cd17 ct17 oc18 kV18 dc18 pm18 cd18 ct18 oc19 kV19 dc19 pm19 cd19 ct19 oc20 kV20 dc20 pm20 cd20 ct20 oc21 kV21 dc21 pm21 cd21 ct21 oc22 kV22 dc22 pm22 cd22 ct22 oc23 kV23 dc23 pm23 cd23 ct23 oc24 kV24 dc24 pm24 cd24 ct24 oc25 kV25 dc25 pm25 cd25 ct25 oc26 kV26 dc26 pm26 cd26 ct26 oc27 kV27 dc27 pm27 cd27 ct27 oc28 kV28 dc28 pm28 cd28 ct28 oc29 kV29 dc29 pm29 cd29 ct29 oc30 kV30 dc30 pm30 cd30 ct30 oc31 kV31 dc31 pm31 cd31 ct31 oc32 kV32 dc32 pm32 cd32 ct32 oc33 kV33 dc33 pm33 cd33 ct33 oc34 kV34 dc34 pm34 cd34 ct34 oc35 kV35 dc35 pm35 cd35 ct35 : Value}
    (a0 : PySem.W.nsIn K mainGlobals "whole" = some (some (.ref f0))) (l0 : K.lookup f0 = some ⟨oc0, od0, .func (PySem.W.fnOf "whole" "whole" (defArgs s_whole) (defBody s_whole) (defScope s_whole) .none kV0 dc0 pm0 an0 cd0 ct0), sl0⟩) (c0 : PySem.W.codeIn K cd0 "whole" = true) (k0 : PySem.W.keepIn K (.ref f0) = true)
    (a1 : PySem.W.nsIn K mainGlobals "within" = some (some (.ref f1))) (l1 : K.lookup f1 = some ⟨oc1, od1, .func (PySem.W.fnOf "within" "within" (defArgs s_within) (defBody s_within) (defScope s_within) .none kV1 dc1 pm1 an1 cd1 ct1), sl1⟩) (c1 : PySem.W.codeIn K cd1 "within" = true) (k1 : PySem.W.keepIn K (.ref f1) = true)
    (a2 : PySem.W.nsIn K mainGlobals "need_number" = some (some (.ref f2))) (l2 : K.lookup f2 = some ⟨oc2, od2, .func (PySem.W.fnOf "need_number" "need_number" (defArgs s_need_number) (defBody s_need_number) (defScope s_need_number) .none kV2 dc2 pm2 an2 cd2 ct2), sl2⟩) (c2 : PySem.W.codeIn K cd2 "need_number" = true) (k2 : PySem.W.keepIn K (.ref f2) = true)
    (a3 : PySem.W.nsIn K mainGlobals "tuple_of" = some (some (.ref f3))) (l3 : K.lookup f3 = some ⟨oc3, od3, .func (PySem.W.fnOf "tuple_of" "tuple_of" (defArgs s_tuple_of) (defBody s_tuple_of) (defScope s_tuple_of) .none kV3 dc3 pm3 an3 cd3 ct3), sl3⟩) (c3 : PySem.W.codeIn K cd3 "tuple_of" = true) (k3 : PySem.W.keepIn K (.ref f3) = true)
    (a4 : PySem.W.nsIn K mainGlobals "is_pair" = some (some (.ref f4))) (l4 : K.lookup f4 = some ⟨oc4, od4, .func (PySem.W.fnOf "is_pair" "is_pair" (defArgs s_is_pair) (defBody s_is_pair) (defScope s_is_pair) .none kV4 dc4 pm4 an4 cd4 ct4), sl4⟩) (c4 : PySem.W.codeIn K cd4 "is_pair" = true) (k4 : PySem.W.keepIn K (.ref f4) = true)
    (a5 : PySem.W.nsIn K mainGlobals "need_company" = some (some (.ref f5))) (l5 : K.lookup f5 = some ⟨oc5, od5, .func (PySem.W.fnOf "need_company" "need_company" (defArgs s_need_company) (defBody s_need_company) (defScope s_need_company) .none kV5 dc5 pm5 an5 cd5 ct5), sl5⟩) (c5 : PySem.W.codeIn K cd5 "need_company" = true) (k5 : PySem.W.keepIn K (.ref f5) = true)
    (a6 : PySem.W.nsIn K mainGlobals "is_word" = some (some (.ref f6))) (l6 : K.lookup f6 = some ⟨oc6, od6, .func (PySem.W.fnOf "is_word" "is_word" (defArgs s_is_word) (defBody s_is_word) (defScope s_is_word) .none kV6 dc6 pm6 an6 cd6 ct6), sl6⟩) (c6 : PySem.W.codeIn K cd6 "is_word" = true) (k6 : PySem.W.keepIn K (.ref f6) = true)
    (a7 : PySem.W.nsIn K mainGlobals "need_word" = some (some (.ref f7))) (l7 : K.lookup f7 = some ⟨oc7, od7, .func (PySem.W.fnOf "need_word" "need_word" (defArgs s_need_word) (defBody s_need_word) (defScope s_need_word) .none kV7 dc7 pm7 an7 cd7 ct7), sl7⟩) (c7 : PySem.W.codeIn K cd7 "need_word" = true) (k7 : PySem.W.keepIn K (.ref f7) = true)
    (a8 : PySem.W.nsIn K mainGlobals "need_letter" = some (some (.ref f8))) (l8 : K.lookup f8 = some ⟨oc8, od8, .func (PySem.W.fnOf "need_letter" "need_letter" (defArgs s_need_letter) (defBody s_need_letter) (defScope s_need_letter) .none kV8 dc8 pm8 an8 cd8 ct8), sl8⟩) (c8 : PySem.W.codeIn K cd8 "need_letter" = true) (k8 : PySem.W.keepIn K (.ref f8) = true)
    (a9 : PySem.W.nsIn K mainGlobals "is_set" = some (some (.ref f9))) (l9 : K.lookup f9 = some ⟨oc9, od9, .func (PySem.W.fnOf "is_set" "is_set" (defArgs s_is_set) (defBody s_is_set) (defScope s_is_set) .none kV9 dc9 pm9 an9 cd9 ct9), sl9⟩) (c9 : PySem.W.codeIn K cd9 "is_set" = true) (k9 : PySem.W.keepIn K (.ref f9) = true)
    (a10 : PySem.W.nsIn K mainGlobals "is_kind" = some (some (.ref f10))) (l10 : K.lookup f10 = some ⟨oc10, od10, .func (PySem.W.fnOf "is_kind" "is_kind" (defArgs s_is_kind) (defBody s_is_kind) (defScope s_is_kind) .none kV10 dc10 pm10 an10 cd10 ct10), sl10⟩) (c10 : PySem.W.codeIn K cd10 "is_kind" = true) (k10 : PySem.W.keepIn K (.ref f10) = true)
    (a11 : PySem.W.nsIn K mainGlobals "need_kind" = some (some (.ref f11))) (l11 : K.lookup f11 = some ⟨oc11, od11, .func (PySem.W.fnOf "need_kind" "need_kind" (defArgs s_need_kind) (defBody s_need_kind) (defScope s_need_kind) .none kV11 dc11 pm11 an11 cd11 ct11), sl11⟩) (c11 : PySem.W.codeIn K cd11 "need_kind" = true) (k11 : PySem.W.keepIn K (.ref f11) = true)
    (a12 : PySem.W.nsIn K mainGlobals "mask_of" = some (some (.ref f12))) (l12 : K.lookup f12 = some ⟨oc12, od12, .func (PySem.W.fnOf "mask_of" "mask_of" (defArgs s_mask_of) (defBody s_mask_of) (defScope s_mask_of) .none kV12 dc12 pm12 an12 cd12 ct12), sl12⟩) (c12 : PySem.W.codeIn K cd12 "mask_of" = true) (k12 : PySem.W.keepIn K (.ref f12) = true)
    (a13 : PySem.W.nsIn K mainGlobals "friends_of_all" = some (some (.ref f13))) (l13 : K.lookup f13 = some ⟨oc13, od13, .func (PySem.W.fnOf "friends_of_all" "friends_of_all" (defArgs s_friends_of_all) (defBody s_friends_of_all) (defScope s_friends_of_all) .none kV13 dc13 pm13 an13 cd13 ct13), sl13⟩) (c13 : PySem.W.codeIn K cd13 "friends_of_all" = true) (k13 : PySem.W.keepIn K (.ref f13) = true)
    (a14 : PySem.W.nsIn K mainGlobals "covers" = some (some (.ref f14))) (l14 : K.lookup f14 = some ⟨oc14, od14, .func (PySem.W.fnOf "covers" "covers" (defArgs s_covers) (defBody s_covers) (defScope s_covers) .none kV14 dc14 pm14 an14 cd14 ct14), sl14⟩) (c14 : PySem.W.codeIn K cd14 "covers" = true) (k14 : PySem.W.keepIn K (.ref f14) = true)
    (a15 : PySem.W.nsIn K mainGlobals "oddness" = some (some (.ref f15))) (l15 : K.lookup f15 = some ⟨oc15, od15, .func (PySem.W.fnOf "oddness" "oddness" (defArgs s_oddness) (defBody s_oddness) (defScope s_oddness) .none kV15 dc15 pm15 an15 cd15 ct15), sl15⟩) (c15 : PySem.W.codeIn K cd15 "oddness" = true) (k15 : PySem.W.keepIn K (.ref f15) = true)
    (a16 : PySem.W.nsIn K mainGlobals "stepped" = some (some (.ref f16))) (l16 : K.lookup f16 = some ⟨oc16, od16, .func (PySem.W.fnOf "stepped" "stepped" (defArgs s_stepped) (defBody s_stepped) (defScope s_stepped) .none kV16 dc16 pm16 an16 cd16 ct16), sl16⟩) (c16 : PySem.W.codeIn K cd16 "stepped" = true) (k16 : PySem.W.keepIn K (.ref f16) = true)
    (a17 : PySem.W.nsIn K mainGlobals "inner" = some (some (.ref f17))) (l17 : K.lookup f17 = some ⟨oc17, od17, .func (PySem.W.fnOf "inner" "inner" (defArgs s_inner) (defBody s_inner) (defScope s_inner) .none kV17 dc17 pm17 an17 cd17 ct17), sl17⟩) (c17 : PySem.W.codeIn K cd17 "inner" = true) (k17 : PySem.W.keepIn K (.ref f17) = true)
    (a18 : PySem.W.nsIn K mainGlobals "need_both" = some (some (.ref f18))) (l18 : K.lookup f18 = some ⟨oc18, od18, .func (PySem.W.fnOf "need_both" "need_both" (defArgs s_need_both) (defBody s_need_both) (defScope s_need_both) .none kV18 dc18 pm18 an18 cd18 ct18), sl18⟩) (c18 : PySem.W.codeIn K cd18 "need_both" = true) (k18 : PySem.W.keepIn K (.ref f18) = true)
    (a19 : PySem.W.nsIn K mainGlobals "is_walk" = some (some (.ref f19))) (l19 : K.lookup f19 = some ⟨oc19, od19, .func (PySem.W.fnOf "is_walk" "is_walk" (defArgs s_is_walk) (defBody s_is_walk) (defScope s_is_walk) .none kV19 dc19 pm19 an19 cd19 ct19), sl19⟩) (c19 : PySem.W.codeIn K cd19 "is_walk" = true) (k19 : PySem.W.keepIn K (.ref f19) = true)
    (a20 : PySem.W.nsIn K mainGlobals "walk_table" = some (some (.ref f20))) (l20 : K.lookup f20 = some ⟨oc20, od20, .func (PySem.W.fnOf "walk_table" "walk_table" (defArgs s_walk_table) (defBody s_walk_table) (defScope s_walk_table) .none kV20 dc20 pm20 an20 cd20 ct20), sl20⟩) (c20 : PySem.W.codeIn K cd20 "walk_table" = true) (k20 : PySem.W.keepIn K (.ref f20) = true)
    (a21 : PySem.W.nsIn K mainGlobals "total_for" = some (some (.ref f21))) (l21 : K.lookup f21 = some ⟨oc21, od21, .func (PySem.W.fnOf "total_for" "total_for" (defArgs s_total_for) (defBody s_total_for) (defScope s_total_for) .none kV21 dc21 pm21 an21 cd21 ct21), sl21⟩) (c21 : PySem.W.codeIn K cd21 "total_for" = true) (k21 : PySem.W.keepIn K (.ref f21) = true)
    (a22 : PySem.W.nsIn K mainGlobals "count_walks" = some (some (.ref f22))) (l22 : K.lookup f22 = some ⟨oc22, od22, .func (PySem.W.fnOf "count_walks" "count_walks" (defArgs s_count_walks) (defBody s_count_walks) (defScope s_count_walks) .none kV22 dc22 pm22 an22 cd22 ct22), sl22⟩) (c22 : PySem.W.codeIn K cd22 "count_walks" = true) (k22 : PySem.W.keepIn K (.ref f22) = true)
    (a23 : PySem.W.nsIn K mainGlobals "count_shy" = some (some (.ref f23))) (l23 : K.lookup f23 = some ⟨oc23, od23, .func (PySem.W.fnOf "count_shy" "count_shy" (defArgs s_count_shy) (defBody s_count_shy) (defScope s_count_shy) .none kV23 dc23 pm23 an23 cd23 ct23), sl23⟩) (c23 : PySem.W.codeIn K cd23 "count_shy" = true) (k23 : PySem.W.keepIn K (.ref f23) = true)
    (a24 : PySem.W.nsIn K mainGlobals "all_walks" = some (some (.ref f24))) (l24 : K.lookup f24 = some ⟨oc24, od24, .func (PySem.W.fnOf "all_walks" "all_walks" (defArgs s_all_walks) (defBody s_all_walks) (defScope s_all_walks) .none kV24 dc24 pm24 an24 cd24 ct24), sl24⟩) (c24 : PySem.W.codeIn K cd24 "all_walks" = true) (k24 : PySem.W.keepIn K (.ref f24) = true)
    (a25 : PySem.W.nsIn K mainGlobals "shortest_walk" = some (some (.ref f25))) (l25 : K.lookup f25 = some ⟨oc25, od25, .func (PySem.W.fnOf "shortest_walk" "shortest_walk" (defArgs s_shortest_walk) (defBody s_shortest_walk) (defScope s_shortest_walk) .none kV25 dc25 pm25 an25 cd25 ct25), sl25⟩) (c25 : PySem.W.codeIn K cd25 "shortest_walk" = true) (k25 : PySem.W.keepIn K (.ref f25) = true)
    (a26 : PySem.W.nsIn K mainGlobals "_law_taken" = some (some (.ref f26))) (l26 : K.lookup f26 = some ⟨oc26, od26, .func (PySem.W.fnOf "_law_taken" "_law_taken" (defArgs s_l_taken) (defBody s_l_taken) (defScope s_l_taken) .none kV26 dc26 pm26 an26 cd26 ct26), sl26⟩) (c26 : PySem.W.codeIn K cd26 "_law_taken" = true) (k26 : PySem.W.keepIn K (.ref f26) = true)
    (a27 : PySem.W.nsIn K mainGlobals "_law_company" = some (some (.ref f27))) (l27 : K.lookup f27 = some ⟨oc27, od27, .func (PySem.W.fnOf "_law_company" "_law_company" (defArgs s_l_company) (defBody s_l_company) (defScope s_l_company) .none kV27 dc27 pm27 an27 cd27 ct27), sl27⟩) (c27 : PySem.W.codeIn K cd27 "_law_company" = true) (k27 : PySem.W.keepIn K (.ref f27) = true)
    (a28 : PySem.W.nsIn K mainGlobals "_law_drawn_kind" = some (some (.ref f28))) (l28 : K.lookup f28 = some ⟨oc28, od28, .func (PySem.W.fnOf "_law_drawn_kind" "_law_drawn_kind" (defArgs s_l_drawn_kind) (defBody s_l_drawn_kind) (defScope s_l_drawn_kind) .none kV28 dc28 pm28 an28 cd28 ct28), sl28⟩) (c28 : PySem.W.codeIn K cd28 "_law_drawn_kind" = true) (k28 : PySem.W.keepIn K (.ref f28) = true)
    (a29 : PySem.W.nsIn K mainGlobals "_law_all_words" = some (some (.ref f29))) (l29 : K.lookup f29 = some ⟨oc29, od29, .func (PySem.W.fnOf "_law_all_words" "_law_all_words" (defArgs s_l_all_words) (defBody s_l_all_words) (defScope s_l_all_words) .none kV29 dc29 pm29 an29 cd29 ct29), sl29⟩) (c29 : PySem.W.codeIn K cd29 "_law_all_words" = true) (k29 : PySem.W.keepIn K (.ref f29) = true)
    (a30 : PySem.W.nsIn K mainGlobals "_law_friend" = some (some (.ref f30))) (l30 : K.lookup f30 = some ⟨oc30, od30, .func (PySem.W.fnOf "_law_friend" "_law_friend" (defArgs s_l_friend) (defBody s_l_friend) (defScope s_l_friend) .none kV30 dc30 pm30 an30 cd30 ct30), sl30⟩) (c30 : PySem.W.codeIn K cd30 "_law_friend" = true) (k30 : PySem.W.keepIn K (.ref f30) = true)
    (a31 : PySem.W.nsIn K mainGlobals "_law_kind" = some (some (.ref f31))) (l31 : K.lookup f31 = some ⟨oc31, od31, .func (PySem.W.fnOf "_law_kind" "_law_kind" (defArgs s_l_kind) (defBody s_l_kind) (defScope s_l_kind) .none kV31 dc31 pm31 an31 cd31 ct31), sl31⟩) (c31 : PySem.W.codeIn K cd31 "_law_kind" = true) (k31 : PySem.W.keepIn K (.ref f31) = true)
    (a32 : PySem.W.nsIn K mainGlobals "_law_alike" = some (some (.ref f32))) (l32 : K.lookup f32 = some ⟨oc32, od32, .func (PySem.W.fnOf "_law_alike" "_law_alike" (defArgs s_l_alike) (defBody s_l_alike) (defScope s_l_alike) .none kV32 dc32 pm32 an32 cd32 ct32), sl32⟩) (c32 : PySem.W.codeIn K cd32 "_law_alike" = true) (k32 : PySem.W.keepIn K (.ref f32) = true)
    (a33 : PySem.W.nsIn K mainGlobals "_law_word" = some (some (.ref f33))) (l33 : K.lookup f33 = some ⟨oc33, od33, .func (PySem.W.fnOf "_law_word" "_law_word" (defArgs s_l_word) (defBody s_l_word) (defScope s_l_word) .none kV33 dc33 pm33 an33 cd33 ct33), sl33⟩) (c33 : PySem.W.codeIn K cd33 "_law_word" = true) (k33 : PySem.W.keepIn K (.ref f33) = true)
    (a34 : PySem.W.nsIn K mainGlobals "_law_pick" = some (some (.ref f34))) (l34 : K.lookup f34 = some ⟨oc34, od34, .func (PySem.W.fnOf "_law_pick" "_law_pick" (defArgs s_l_pick) (defBody s_l_pick) (defScope s_l_pick) .none kV34 dc34 pm34 an34 cd34 ct34), sl34⟩) (c34 : PySem.W.codeIn K cd34 "_law_pick" = true) (k34 : PySem.W.keepIn K (.ref f34) = true)
    (a35 : PySem.W.nsIn K mainGlobals "law" = some (some (.ref f35))) (l35 : K.lookup f35 = some ⟨oc35, od35, .func (PySem.W.fnOf "law" "law" (defArgs s_law) (defBody s_law) (defScope s_law) .none kV35 dc35 pm35 an35 cd35 ct35), sl35⟩) (c35 : PySem.W.codeIn K cd35 "law" = true) (k35 : PySem.W.keepIn K (.ref f35) = true)
    (z_isinstance : PySem.W.nsIn K mainGlobals "isinstance" = some none)
    (z_int : PySem.W.nsIn K mainGlobals "int" = some none)
    (z_bool : PySem.W.nsIn K mainGlobals "bool" = some none)
    (z_str : PySem.W.nsIn K mainGlobals "str" = some none)
    (z_tuple : PySem.W.nsIn K mainGlobals "tuple" = some none)
    (z_list : PySem.W.nsIn K mainGlobals "list" = some none)
    (z_len : PySem.W.nsIn K mainGlobals "len" = some none)
    (z_range : PySem.W.nsIn K mainGlobals "range" = some none)
    (z_all : PySem.W.nsIn K mainGlobals "all" = some none)
    (z_any : PySem.W.nsIn K mainGlobals "any" = some none)
    (z_sum : PySem.W.nsIn K mainGlobals "sum" = some none)
    (z_min : PySem.W.nsIn K mainGlobals "min" = some none)
    (z_max : PySem.W.nsIn K mainGlobals "max" = some none)
    (z_sorted : PySem.W.nsIn K mainGlobals "sorted" = some none)
    (z_enumerate : PySem.W.nsIn K mainGlobals "enumerate" = some none)
    (z_zip : PySem.W.nsIn K mainGlobals "zip" = some none)
    (y1 : PySem.W.nsIn K mainGlobals "ALPHABET" = some (some (.str "abcdefgh" t1))) (y2 : PySem.W.nsIn K mainGlobals "MOST_LETTERS" = some (some (.int 8 t2))) (y3 : PySem.W.nsIn K mainGlobals "MOST_WORD" = some (some (.int 60 t3))) :
    ∃ fd : FuncData, (∀ (s : Shared) (v : Value), BindsTo s fd ⟨[v], []⟩ [("_law_script", v)]) ∧ ∀ base : Heap, K.In base → base.Ns mainGlobals mg → FnOk l.prog w K mg base CX0 7 fa fd ["_law_script"] (spLaw K) := by
  have e := hfa.symm.trans (PySem.W.mg_of X G a35)
  cases e
  have B : Bt mg := ⟨PySem.W.mg_none_of X G z_isinstance, PySem.W.mg_none_of X G z_int, PySem.W.mg_none_of X G z_bool, PySem.W.mg_none_of X G z_str, PySem.W.mg_none_of X G z_tuple, PySem.W.mg_none_of X G z_list, PySem.W.mg_none_of X G z_len, PySem.W.mg_none_of X G z_range, PySem.W.mg_none_of X G z_all, PySem.W.mg_none_of X G z_any, PySem.W.mg_none_of X G z_sum, PySem.W.mg_none_of X G z_min, PySem.W.mg_none_of X G z_max, PySem.W.mg_none_of X G z_sorted, PySem.W.mg_none_of X G z_enumerate, PySem.W.mg_none_of X G z_zip, ⟨_, PySem.W.mg_of X G y1⟩, ⟨_, PySem.W.mg_of X G y2⟩, ⟨_, PySem.W.mg_of X G y3⟩⟩
  have D_whole : Df K mg "whole" s_whole ["value"] f0 (PySem.W.fnOf "whole" "whole" (defArgs s_whole) (defBody s_whole) (defScope s_whole) .none kV0 dc0 pm0 an0 cd0 ct0) := df_mk X G a0 l0 c0 k0 fun _ _ _ _ _ _ us hl => match us, hl with | [_], _ => rfl
  have D_within : Df K mg "within" s_within ["value", "low", "high"] f1 (PySem.W.fnOf "within" "within" (defArgs s_within) (defBody s_within) (defScope s_within) .none kV1 dc1 pm1 an1 cd1 ct1) := df_mk X G a1 l1 c1 k1 fun _ _ _ _ _ _ us hl => match us, hl with | [_, _, _], _ => rfl
  have D_need_number : Df K mg "need_number" s_need_number ["value", "low", "high"] f2 (PySem.W.fnOf "need_number" "need_number" (defArgs s_need_number) (defBody s_need_number) (defScope s_need_number) .none kV2 dc2 pm2 an2 cd2 ct2) := df_mk X G a2 l2 c2 k2 fun _ _ _ _ _ _ us hl => match us, hl with | [_, _, _], _ => rfl
  have D_tuple_of : Df K mg "tuple_of" s_tuple_of ["value", "low", "high"] f3 (PySem.W.fnOf "tuple_of" "tuple_of" (defArgs s_tuple_of) (defBody s_tuple_of) (defScope s_tuple_of) .none kV3 dc3 pm3 an3 cd3 ct3) := df_mk X G a3 l3 c3 k3 fun _ _ _ _ _ _ us hl => match us, hl with | [_, _, _], _ => rfl
  have D_is_pair : Df K mg "is_pair" s_is_pair ["many", "value"] f4 (PySem.W.fnOf "is_pair" "is_pair" (defArgs s_is_pair) (defBody s_is_pair) (defScope s_is_pair) .none kV4 dc4 pm4 an4 cd4 ct4) := df_mk X G a4 l4 c4 k4 fun _ _ _ _ _ _ us hl => match us, hl with | [_, _], _ => rfl
  have D_need_company : Df K mg "need_company" s_need_company ["company"] f5 (PySem.W.fnOf "need_company" "need_company" (defArgs s_need_company) (defBody s_need_company) (defScope s_need_company) .none kV5 dc5 pm5 an5 cd5 ct5) := df_mk X G a5 l5 c5 k5 fun _ _ _ _ _ _ us hl => match us, hl with | [_], _ => rfl
  have D_is_word : Df K mg "is_word" s_is_word ["company", "value", "most"] f6 (PySem.W.fnOf "is_word" "is_word" (defArgs s_is_word) (defBody s_is_word) (defScope s_is_word) .none kV6 dc6 pm6 an6 cd6 ct6) := df_mk X G a6 l6 c6 k6 fun _ _ _ _ _ _ us hl => match us, hl with | [_, _, _], _ => rfl
  have D_need_word : Df K mg "need_word" s_need_word ["company", "word"] f7 (PySem.W.fnOf "need_word" "need_word" (defArgs s_need_word) (defBody s_need_word) (defScope s_need_word) .none kV7 dc7 pm7 an7 cd7 ct7) := df_mk X G a7 l7 c7 k7 fun _ _ _ _ _ _ us hl => match us, hl with | [_, _], _ => rfl
  have D_need_letter : Df K mg "need_letter" s_need_letter ["company", "letter"] f8 (PySem.W.fnOf "need_letter" "need_letter" (defArgs s_need_letter) (defBody s_need_letter) (defScope s_need_letter) .none kV8 dc8 pm8 an8 cd8 ct8) := df_mk X G a8 l8 c8 k8 fun _ _ _ _ _ _ us hl => match us, hl with | [_, _], _ => rfl
  have D_is_set : Df K mg "is_set" s_is_set ["company", "value"] f9 (PySem.W.fnOf "is_set" "is_set" (defArgs s_is_set) (defBody s_is_set) (defScope s_is_set) .none kV9 dc9 pm9 an9 cd9 ct9) := df_mk X G a9 l9 c9 k9 fun _ _ _ _ _ _ us hl => match us, hl with | [_, _], _ => rfl
  have D_is_kind : Df K mg "is_kind" s_is_kind ["company", "value"] f10 (PySem.W.fnOf "is_kind" "is_kind" (defArgs s_is_kind) (defBody s_is_kind) (defScope s_is_kind) .none kV10 dc10 pm10 an10 cd10 ct10) := df_mk X G a10 l10 c10 k10 fun _ _ _ _ _ _ us hl => match us, hl with | [_, _], _ => rfl
  have D_need_kind : Df K mg "need_kind" s_need_kind ["company", "kind"] f11 (PySem.W.fnOf "need_kind" "need_kind" (defArgs s_need_kind) (defBody s_need_kind) (defScope s_need_kind) .none kV11 dc11 pm11 an11 cd11 ct11) := df_mk X G a11 l11 c11 k11 fun _ _ _ _ _ _ us hl => match us, hl with | [_, _], _ => rfl
  have D_mask_of : Df K mg "mask_of" s_mask_of ["letters"] f12 (PySem.W.fnOf "mask_of" "mask_of" (defArgs s_mask_of) (defBody s_mask_of) (defScope s_mask_of) .none kV12 dc12 pm12 an12 cd12 ct12) := df_mk X G a12 l12 c12 k12 fun _ _ _ _ _ _ us hl => match us, hl with | [_], _ => rfl
  have D_friends_of_all : Df K mg "friends_of_all" s_friends_of_all ["company"] f13 (PySem.W.fnOf "friends_of_all" "friends_of_all" (defArgs s_friends_of_all) (defBody s_friends_of_all) (defScope s_friends_of_all) .none kV13 dc13 pm13 an13 cd13 ct13) := df_mk X G a13 l13 c13 k13 fun _ _ _ _ _ _ us hl => match us, hl with | [_], _ => rfl
  have D_covers : Df K mg "covers" s_covers ["company"] f14 (PySem.W.fnOf "covers" "covers" (defArgs s_covers) (defBody s_covers) (defScope s_covers) .none kV14 dc14 pm14 an14 cd14 ct14) := df_mk X G a14 l14 c14 k14 fun _ _ _ _ _ _ us hl => match us, hl with | [_], _ => rfl
  have D_oddness : Df K mg "oddness" s_oddness [] f15 (PySem.W.fnOf "oddness" "oddness" (defArgs s_oddness) (defBody s_oddness) (defScope s_oddness) .none kV15 dc15 pm15 an15 cd15 ct15) := df_mk X G a15 l15 c15 k15 fun _ _ _ _ _ _ us hl => match us, hl with | [], _ => rfl
  have D_stepped : Df K mg "stepped" s_stepped ["pair", "at", "cover", "odd"] f16 (PySem.W.fnOf "stepped" "stepped" (defArgs s_stepped) (defBody s_stepped) (defScope s_stepped) .none kV16 dc16 pm16 an16 cd16 ct16) := df_mk X G a16 l16 c16 k16 fun _ _ _ _ _ _ us hl => match us, hl with | [_, _, _, _], _ => rfl
  have D_inner : Df K mg "inner" s_inner ["kind"] f17 (PySem.W.fnOf "inner" "inner" (defArgs s_inner) (defBody s_inner) (defScope s_inner) .none kV17 dc17 pm17 an17 cd17 ct17) := df_mk X G a17 l17 c17 k17 fun _ _ _ _ _ _ us hl => match us, hl with | [_], _ => rfl
  have D_need_both : Df K mg "need_both" s_need_both ["company", "word"] f18 (PySem.W.fnOf "need_both" "need_both" (defArgs s_need_both) (defBody s_need_both) (defScope s_need_both) .none kV18 dc18 pm18 an18 cd18 ct18) := df_mk X G a18 l18 c18 k18 fun _ _ _ _ _ _ us hl => match us, hl with | [_, _], _ => rfl
  have D_is_walk : Df K mg "is_walk" s_is_walk ["company", "word"] f19 (PySem.W.fnOf "is_walk" "is_walk" (defArgs s_is_walk) (defBody s_is_walk) (defScope s_is_walk) .none kV19 dc19 pm19 an19 cd19 ct19) := df_mk X G a19 l19 c19 k19 fun _ _ _ _ _ _ us hl => match us, hl with | [_, _], _ => rfl
  have D_walk_table : Df K mg "walk_table" s_walk_table ["company", "length", "is_friendly"] f20 (PySem.W.fnOf "walk_table" "walk_table" (defArgs s_walk_table) (defBody s_walk_table) (defScope s_walk_table) .none kV20 dc20 pm20 an20 cd20 ct20) := df_mk X G a20 l20 c20 k20 fun _ _ _ _ _ _ us hl => match us, hl with | [_, _, _], _ => rfl
  have D_total_for : Df K mg "total_for" s_total_for ["company", "kind", "length", "is_friendly"] f21 (PySem.W.fnOf "total_for" "total_for" (defArgs s_total_for) (defBody s_total_for) (defScope s_total_for) .none kV21 dc21 pm21 an21 cd21 ct21) := df_mk X G a21 l21 c21 k21 fun _ _ _ _ _ _ us hl => match us, hl with | [_, _, _, _], _ => rfl
  have D_count_walks : Df K mg "count_walks" s_count_walks ["company", "kind", "length"] f22 (PySem.W.fnOf "count_walks" "count_walks" (defArgs s_count_walks) (defBody s_count_walks) (defScope s_count_walks) .none kV22 dc22 pm22 an22 cd22 ct22) := df_mk X G a22 l22 c22 k22 fun _ _ _ _ _ _ us hl => match us, hl with | [_, _, _], _ => rfl
  have D_count_shy : Df K mg "count_shy" s_count_shy ["company", "kind", "length"] f23 (PySem.W.fnOf "count_shy" "count_shy" (defArgs s_count_shy) (defBody s_count_shy) (defScope s_count_shy) .none kV23 dc23 pm23 an23 cd23 ct23) := df_mk X G a23 l23 c23 k23 fun _ _ _ _ _ _ us hl => match us, hl with | [_, _, _], _ => rfl
  have D_all_walks : Df K mg "all_walks" s_all_walks ["company", "length"] f24 (PySem.W.fnOf "all_walks" "all_walks" (defArgs s_all_walks) (defBody s_all_walks) (defScope s_all_walks) .none kV24 dc24 pm24 an24 cd24 ct24) := df_mk X G a24 l24 c24 k24 fun _ _ _ _ _ _ us hl => match us, hl with | [_, _], _ => rfl
  have D_shortest_walk : Df K mg "shortest_walk" s_shortest_walk ["company", "one", "other"] f25 (PySem.W.fnOf "shortest_walk" "shortest_walk" (defArgs s_shortest_walk) (defBody s_shortest_walk) (defScope s_shortest_walk) .none kV25 dc25 pm25 an25 cd25 ct25) := df_mk X G a25 l25 c25 k25 fun _ _ _ _ _ _ us hl => match us, hl with | [_, _, _], _ => rfl
  have D_l_taken : Df K mg "_law_taken" s_l_taken ["_law_row", "_law_many"] f26 (PySem.W.fnOf "_law_taken" "_law_taken" (defArgs s_l_taken) (defBody s_l_taken) (defScope s_l_taken) .none kV26 dc26 pm26 an26 cd26 ct26) := df_mk X G a26 l26 c26 k26 fun _ _ _ _ _ _ us hl => match us, hl with | [_, _], _ => rfl
  have D_l_company : Df K mg "_law_company" s_l_company ["_law_row", "_law_most"] f27 (PySem.W.fnOf "_law_company" "_law_company" (defArgs s_l_company) (defBody s_l_company) (defScope s_l_company) .none kV27 dc27 pm27 an27 cd27 ct27) := df_mk X G a27 l27 c27 k27 fun _ _ _ _ _ _ us hl => match us, hl with | [_, _], _ => rfl
  have D_l_drawn_kind : Df K mg "_law_drawn_kind" s_l_drawn_kind ["_law_row", "_law_company_here"] f28 (PySem.W.fnOf "_law_drawn_kind" "_law_drawn_kind" (defArgs s_l_drawn_kind) (defBody s_l_drawn_kind) (defScope s_l_drawn_kind) .none kV28 dc28 pm28 an28 cd28 ct28) := df_mk X G a28 l28 c28 k28 fun _ _ _ _ _ _ us hl => match us, hl with | [_, _], _ => rfl
  have D_l_all_words : Df K mg "_law_all_words" s_l_all_words ["_law_company_here", "_law_length"] f29 (PySem.W.fnOf "_law_all_words" "_law_all_words" (defArgs s_l_all_words) (defBody s_l_all_words) (defScope s_l_all_words) .none kV29 dc29 pm29 an29 cd29 ct29) := df_mk X G a29 l29 c29 k29 fun _ _ _ _ _ _ us hl => match us, hl with | [_, _], _ => rfl
  have D_l_friend : Df K mg "_law_friend" s_l_friend ["_law_company_here", "_law_one", "_law_other"] f30 (PySem.W.fnOf "_law_friend" "_law_friend" (defArgs s_l_friend) (defBody s_l_friend) (defScope s_l_friend) .none kV30 dc30 pm30 an30 cd30 ct30) := df_mk X G a30 l30 c30 k30 fun _ _ _ _ _ _ us hl => match us, hl with | [_, _, _], _ => rfl
  have D_l_kind : Df K mg "_law_kind" s_l_kind ["_law_company_here", "_law_word_here"] f31 (PySem.W.fnOf "_law_kind" "_law_kind" (defArgs s_l_kind) (defBody s_l_kind) (defScope s_l_kind) .none kV31 dc31 pm31 an31 cd31 ct31) := df_mk X G a31 l31 c31 k31 fun _ _ _ _ _ _ us hl => match us, hl with | [_, _], _ => rfl
  have D_l_alike : Df K mg "_law_alike" s_l_alike ["_law_found", "_law_due"] f32 (PySem.W.fnOf "_law_alike" "_law_alike" (defArgs s_l_alike) (defBody s_l_alike) (defScope s_l_alike) .none kV32 dc32 pm32 an32 cd32 ct32) := df_mk X G a32 l32 c32 k32 fun _ _ _ _ _ _ us hl => match us, hl with | [_, _], _ => rfl
  have D_l_word : Df K mg "_law_word" s_l_word ["_law_row", "_law_company_here", "_law_most"] f33 (PySem.W.fnOf "_law_word" "_law_word" (defArgs s_l_word) (defBody s_l_word) (defScope s_l_word) .none kV33 dc33 pm33 an33 cd33 ct33) := df_mk X G a33 l33 c33 k33 fun _ _ _ _ _ _ us hl => match us, hl with | [_, _, _], _ => rfl
  have D_l_pick : Df K mg "_law_pick" s_l_pick ["_law_row", "_law_things"] f34 (PySem.W.fnOf "_law_pick" "_law_pick" (defArgs s_l_pick) (defBody s_l_pick) (defScope s_l_pick) .none kV34 dc34 pm34 an34 cd34 ct34) := df_mk X G a34 l34 c34 k34 fun _ _ _ _ _ _ us hl => match us, hl with | [_, _], _ => rfl
  have D_law : Df K mg "law" s_law ["_law_script"] fa (PySem.W.fnOf "law" "law" (defArgs s_law) (defBody s_law) (defScope s_law) .none kV35 dc35 pm35 an35 cd35 ct35) := df_mk X G a35 l35 c35 k35 fun _ _ _ _ _ _ us hl => match us, hl with | [_], _ => rfl
  refine ⟨(PySem.W.fnOf "law" "law" (defArgs s_law) (defBody s_law) (defScope s_law) .none kV35 dc35 pm35 an35 cd35 ct35), fun s v => .of_eq rfl, fun base _ _ => ?_⟩
  have G_whole := ok_whole (P := l.prog) (w := w) (base := base) D_whole B
  have G_within := ok_within (P := l.prog) (w := w) (base := base) D_within D_whole G_whole
  have G_need_number := ok_need_number (P := l.prog) (w := w) (base := base) D_need_number D_within G_within
  have G_tuple_of := ok_tuple_of (P := l.prog) (w := w) (base := base) D_tuple_of B
  have G_is_pair := ok_is_pair (P := l.prog) (w := w) (base := base) D_is_pair B D_tuple_of G_tuple_of D_whole G_whole
  have G_need_company := ok_need_company (P := l.prog) (w := w) (base := base) D_need_company B D_tuple_of G_tuple_of D_within G_within D_is_pair G_is_pair
  have G_is_word := ok_is_word (P := l.prog) (w := w) (base := base) D_is_word B
  have G_need_word := ok_need_word (P := l.prog) (w := w) (base := base) D_need_word B D_is_word G_is_word
  have G_need_letter := ok_need_letter (P := l.prog) (w := w) (base := base) D_need_letter B D_is_word G_is_word
  have G_is_set := ok_is_set (P := l.prog) (w := w) (base := base) D_is_set B
  have G_is_kind := ok_is_kind (P := l.prog) (w := w) (base := base) D_is_kind B D_tuple_of G_tuple_of D_is_set G_is_set D_within G_within
  have G_need_kind := ok_need_kind (P := l.prog) (w := w) (base := base) D_need_kind B D_is_kind G_is_kind
  have G_mask_of := ok_mask_of (P := l.prog) (w := w) (base := base) D_mask_of B
  have G_friends_of_all := ok_friends_of_all (P := l.prog) (w := w) (base := base) D_friends_of_all B
  have G_covers := ok_covers (P := l.prog) (w := w) (base := base) D_covers B D_friends_of_all G_friends_of_all
  have G_oddness := ok_oddness (P := l.prog) (w := w) (base := base) D_oddness B
  have G_stepped := ok_stepped (P := l.prog) (w := w) (base := base) D_stepped B
  have G_inner := ok_inner (P := l.prog) (w := w) (base := base) D_inner B D_mask_of G_mask_of
  have G_need_both := ok_need_both (P := l.prog) (w := w) (base := base) D_need_both D_need_company G_need_company D_need_word G_need_word
  have G_is_walk := ok_is_walk (P := l.prog) (w := w) (base := base) D_is_walk B D_need_both G_need_both D_friends_of_all G_friends_of_all
  have G_walk_table := ok_walk_table (P := l.prog) (w := w) (base := base) D_walk_table B D_friends_of_all G_friends_of_all D_covers G_covers D_oddness G_oddness D_stepped G_stepped
  have G_total_for := ok_total_for (P := l.prog) (w := w) (base := base) D_total_for B D_need_company G_need_company D_need_kind G_need_kind D_need_number G_need_number D_walk_table G_walk_table D_inner G_inner
  have G_count_walks := ok_count_walks (P := l.prog) (w := w) (base := base) D_count_walks D_total_for G_total_for
  have G_count_shy := ok_count_shy (P := l.prog) (w := w) (base := base) D_count_shy D_total_for G_total_for
  have G_all_walks := ok_all_walks (P := l.prog) (w := w) (base := base) D_all_walks B D_need_company G_need_company D_need_number G_need_number D_walk_table G_walk_table
  have G_shortest_walk := ok_shortest_walk (P := l.prog) (w := w) (base := base) D_shortest_walk B D_need_company G_need_company D_need_letter G_need_letter D_friends_of_all G_friends_of_all
  have G_l_taken := ok_l_taken (P := l.prog) (w := w) (base := base) D_l_taken B
  have G_l_company := ok_l_company (P := l.prog) (w := w) (base := base) D_l_company B D_l_taken G_l_taken
  have G_l_drawn_kind := ok_l_drawn_kind (P := l.prog) (w := w) (base := base) D_l_drawn_kind B D_l_taken G_l_taken
  have G_l_word := ok_l_word (P := l.prog) (w := w) (base := base) D_l_word B D_l_taken G_l_taken
  have G_l_pick := ok_l_pick (P := l.prog) (w := w) (base := base) D_l_pick B D_l_taken G_l_taken
  have G_l_friend := ok_l_friend (P := l.prog) (w := w) (base := base) D_l_friend B
  have G_l_alike := ok_l_alike (P := l.prog) (w := w) (base := base) D_l_alike B
  have G_l_alike1 := ok_l_alike1 (P := l.prog) (w := w) (base := base) D_l_alike B D_l_alike G_l_alike
  have G_l_all_words := ok_l_all_words (P := l.prog) (w := w) (base := base) D_l_all_words B
  have G_l_kind := ok_l_kind (P := l.prog) (w := w) (base := base) D_l_kind B D_l_friend G_l_friend
  exact ok_law D_law B D_l_company G_l_company D_l_taken G_l_taken D_l_drawn_kind G_l_drawn_kind D_l_all_words G_l_all_words D_l_friend G_l_friend D_l_kind G_l_kind D_l_alike G_l_alike D_l_alike G_l_alike1 D_l_word G_l_word D_l_pick G_l_pick D_count_walks G_count_walks D_count_shy G_count_shy D_all_walks G_all_walks D_is_walk G_is_walk D_shortest_walk G_shortest_walk
theorem walk {l : PySem.W.OpenLaw} {q : Program} {loose : List Str} {XP : (Str → Option Value) → Heap → Prop} {YP : World → Heap → Prop} {d : DefRec} {K : Params → PySem.W.Frag} (hn : l.most = some 63) (hdf : d.params.defaults = [])
    (hY : ∀ (w : World) (h : Heap), YP w h → (K w.params).In h)
    (F : ∀ (w : World) (mg : Str → Option Value) (fa : Addr) (h : Heap), (K w.params).In h → h.Ns mainGlobals mg → mg d.name = some (.ref fa) →
      ∃ fd : FuncData, (∀ (s : Shared) (u : Value), BindsTo s fd ⟨[u], []⟩ [("_law_script", u)]) ∧ ∀ base : Heap, (K w.params).In base → base.Ns mainGlobals mg → FnOk l.prog w (K w.params) mg base CX0 7 fa fd ["_law_script"] (spLaw (K w.params))) :
    PySem.W.WalkO q loose XP YP l.row.toRowW d [] (fun f vs => PySem.call f vs) :=
  L2.walk_of (n := 63) (k := 7) (x := "_law_script") (CX := fun _ => CX0) (sp := fun w => spLaw (K w.params)) hn (by decide) hdf ⟨rfl, by decide, by decide⟩ hY F (fun _ _ a ns hl _ hS => ⟨a, ns, rfl, hS, fun _ => rfl⟩) fun _ _ _ _ _ z => z
end Kw

open PySem PySem.W PyProof.Rows in
set_option maxRecDepth 100000 in
set_option maxHeartbeats 0 in
theorem PySem.Challenge.cw_chumwords_k46_whole_walks_holds : PySem.Challenge.rw_chumwords_k46_whole_walks.Holds := by
  w_on; o_law; k_head; (case hw => w_witness2)
  k_fill
  refine Kw.walk (l := PySem.Challenge.rw_chumwords_k46_whole_walks) rfl rfl (fun w h Y => PySem.W.kIn_of Y) ?F
  case F =>
    intro w mg fa h KX G hmg
    refine' Kw.all_mk KX G hmg ?a0 ?l0 ?c0 ?k0 ?a1 ?l1 ?c1 ?k1 ?a2 ?l2 ?c2 ?k2 ?a3 ?l3 ?c3 ?k3 ?a4 ?l4 ?c4 ?k4 ?a5 ?l5 ?c5 ?k5 ?a6 ?l6 ?c6 ?k6 ?a7 ?l7 ?c7 ?k7 ?a8 ?l8 ?c8 ?k8 ?a9 ?l9 ?c9 ?k9 ?a10 ?l10 ?c10 ?k10 ?a11 ?l11 ?c11 ?k11 ?a12 ?l12 ?c12 ?k12 ?a13 ?l13 ?c13 ?k13 ?a14 ?l14 ?c14 ?k14 ?a15 ?l15 ?c15 ?k15 ?a16 ?l16 ?c16 ?k16 ?a17 ?l17 ?c17 ?k17 ?a18 ?l18 ?c18 ?k18 ?a19 ?l19 ?c19 ?k19 ?a20 ?l20 ?c20 ?k20 ?a21 ?l21 ?c21 ?k21 ?a22 ?l22 ?c22 ?k22 ?a23 ?l23 ?c23 ?k23 ?a24 ?l24 ?c24 ?k24 ?a25 ?l25 ?c25 ?k25 ?a26 ?l26 ?c26 ?k26 ?a27 ?l27 ?c27 ?k27 ?a28 ?l28 ?c28 ?k28 ?a29 ?l29 ?c29 ?k29 ?a30 ?l30 ?c30 ?k30 ?a31 ?l31 ?c31 ?k31 ?a32 ?l32 ?c32 ?k32 ?a33 ?l33 ?c33 ?k33 ?a34 ?l34 ?c34 ?k34 ?a35 ?l35 ?c35 ?k35 ?z_isinstance ?z_int ?z_bool ?z_str ?z_tuple ?z_list ?z_len ?z_range ?z_all ?z_any ?z_sum ?z_min ?z_max ?z_sorted ?z_enumerate ?z_zip ?y1 ?y2 ?y3
    (case a0 => k_is)
    (case l0 => k_is)
    (case c0 => k_is)
    (case k0 => k_is)
    (case a1 => k_is)
    (case l1 => k_is)
    (case c1 => k_is)
    (case k1 => k_is)
    (case a2 => k_is)
    (case l2 => k_is)
    (case c2 => k_is)
    (case k2 => k_is)
    (case a3 => k_is)
    (case l3 => k_is)
    (case c3 => k_is)
    (case k3 => k_is)
    (case a4 => k_is)
    (case l4 => k_is)
    (case c4 => k_is)
    (case k4 => k_is)
    (case a5 => k_is)
    (case l5 => k_is)
    (case c5 => k_is)
    (case k5 => k_is)
    (case a6 => k_is)
    (case l6 => k_is)
    (case c6 => k_is)
    (case k6 => k_is)
    (case a7 => k_is)
    (case l7 => k_is)
    (case c7 => k_is)
    (case k7 => k_is)
    (case a8 => k_is)
    (case l8 => k_is)
    (case c8 => k_is)
    (case k8 => k_is)
    (case a9 => k_is)
    (case l9 => k_is)
    (case c9 => k_is)
    (case k9 => k_is)
    (case a10 => k_is)
    (case l10 => k_is)
    (case c10 => k_is)
    (case k10 => k_is)
    (case a11 => k_is)
    (case l11 => k_is)
    (case c11 => k_is)
    (case k11 => k_is)
    (case a12 => k_is)
    (case l12 => k_is)
    (case c12 => k_is)
    (case k12 => k_is)
    (case a13 => k_is)
    (case l13 => k_is)
    (case c13 => k_is)
    (case k13 => k_is)
    (case a14 => k_is)
    (case l14 => k_is)
    (case c14 => k_is)
    (case k14 => k_is)
    (case a15 => k_is)
    (case l15 => k_is)
    (case c15 => k_is)
    (case k15 => k_is)
    (case a16 => k_is)
    (case l16 => k_is)
    (case c16 => k_is)
    (case k16 => k_is)
    (case a17 => k_is)
    (case l17 => k_is)
    (case c17 => k_is)
    (case k17 => k_is)
    (case a18 => k_is)
    (case l18 => k_is)
    (case c18 => k_is)
    (case k18 => k_is)
    (case a19 => k_is)
    (case l19 => k_is)
    (case c19 => k_is)
    (case k19 => k_is)
    (case a20 => k_is)
    (case l20 => k_is)
    (case c20 => k_is)
    (case k20 => k_is)
    (case a21 => k_is)
    (case l21 => k_is)
    (case c21 => k_is)
    (case k21 => k_is)
    (case a22 => k_is)
    (case l22 => k_is)
    (case c22 => k_is)
    (case k22 => k_is)
    (case a23 => k_is)
    (case l23 => k_is)
    (case c23 => k_is)
    (case k23 => k_is)
    (case a24 => k_is)
    (case l24 => k_is)
    (case c24 => k_is)
    (case k24 => k_is)
    (case a25 => k_is)
    (case l25 => k_is)
    (case c25 => k_is)
    (case k25 => k_is)
    (case a26 => k_is)
    (case l26 => k_is)
    (case c26 => k_is)
    (case k26 => k_is)
    (case a27 => k_is)
    (case l27 => k_is)
    (case c27 => k_is)
    (case k27 => k_is)
    (case a28 => k_is)
    (case l28 => k_is)
    (case c28 => k_is)
    (case k28 => k_is)
    (case a29 => k_is)
    (case l29 => k_is)
    (case c29 => k_is)
    (case k29 => k_is)
    (case a30 => k_is)
    (case l30 => k_is)
    (case c30 => k_is)
    (case k30 => k_is)
    (case a31 => k_is)
    (case l31 => k_is)
    (case c31 => k_is)
    (case k31 => k_is)
    (case a32 => k_is)
    (case l32 => k_is)
    (case c32 => k_is)
    (case k32 => k_is)
    (case a33 => k_is)
    (case l33 => k_is)
    (case c33 => k_is)
    (case k33 => k_is)
    (case a34 => k_is)
    (case l34 => k_is)
    (case c34 => k_is)
    (case k34 => k_is)
    (case a35 => k_is)
    (case l35 => k_is)
    (case c35 => k_is)
    (case k35 => k_is)
    (case z_isinstance => k_is)
    (case z_int => k_is)
    (case z_bool => k_is)
    (case z_str => k_is)
    (case z_tuple => k_is)
    (case z_list => k_is)
    (case z_len => k_is)
    (case z_range => k_is)
    (case z_all => k_is)
    (case z_any => k_is)
    (case z_sum => k_is)
    (case z_min => k_is)
    (case z_max => k_is)
    (case z_sorted => k_is)
    (case z_enumerate => k_is)
    (case z_zip => k_is)
    (case y1 => k_is)
    (case y2 => k_is)
    (case y3 => k_is)
