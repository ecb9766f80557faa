import PyProof.Rows.All
import Wide.All
import OpenK.AllK
import Wide.FinOn
import HandS.ForMost
import HandS.ForExc
import HandS.SetFor
import HandS.TupAny
import HandS.Style
import KE.GoesEnum
import KE.SortData
import HandS.ExcField
import KE.KExcSuper
import KE.KTupSum
import HandS.Conv
import HandS.DictComp
import HandS.More
import HandS.SortInts
import HandS.TupMul
import HandS.IsInst
import HandS.WordsDict
import HandS.WordsExc
import HandS.Walk
import HandS.ExcIs
import KE.RegKSuper
import PySem.Challenge.RW_datedlines_k33_woods_of_trees
set_option Elab.async false
set_option linter.all false
set_option maxRecDepth 100000
set_option maxHeartbeats 4000000
/-! further rules over the hand layer: a list extended by a tuple, tuple.count, a tuple turned about, enumerate over a tuple, a call by keywords alone -/
namespace G93
open PySem PySem.Spec PyProof.Rows L2

section
variable {prog : Program} {w : World} {A : Around} {E : Value → Shared → Prop} {s : Shared}
theorem extend_tup_meets (l : Addr) (items : Array Value) (n : Nat) (b : Addr) (items2 : Array Value) (n2 : Nat) (dd : Option Addr) (sl : Array (Option Value))
    (hs0 : ¬ (!items.isEmpty && Builtin.List.listTooLong (items.size + items2.size)) = true) (hs1 : items.size ≤ sizeLine) (hs2 : items.size + items2.size ≤ sizeLine) :
    Meets (Builtin.«list.extend» ⟨[.ref l, .ref b], []⟩) (fun _ R s =>
      s.heap.get? l = some { cls := .type "list", dict := none, data := .seq items n, slots := #[] } ∧
      s.heap.get? b = some { cls := .type "tuple", dict := dd, data := .seq items2 n2, slots := sl } ∧
      R (.ok (.ret Value.none)) { s with heap := s.heap.update l (Obj.mapSeq fun x => x ++ items2), toks := s.toks }) :=
  .of_wp fun prog w A R s h => by
    obtain ⟨hp, g, d, tk, os⟩ := s
    obtain ⟨hl, hb, h⟩ := h
    have f1 := AutoSeq1.idx_int
    have f2 := AutoSeq1.sub_tuple_tuple
    have f3 := AutoSeq1.sub_list_list
    have f4 := AutoSeq1.sub_tuple_list
    have f5 := AutoSeq1.sub_list_tuple
    have hz' : (items ++ items2).size ≤ sizeLine + 1 := by
      rw [Array.size_append]
      omega
    wp_walk using (wpAny_updateSeq hl rfl (hz := hs1) (_hz' := hz')), AutoSeq1.wpAny_loadPart' hl, AutoSeq1.wpAny_loadPart' hb
    exact ⟨_, rfl, h⟩
end

/-- xs.extend(t), t a tuple -/
def rExtT (K : PySem.W.Frag) : V → List V → Hp → VK → Prop := fun x vs H Q => ∃ l b xs zs, x = .ref l ∧ vs = [.ref b] ∧ H l = some (.lst xs) ∧ SqT K H b zs ∧
  xs.length + zs.length ≤ sizeLine ∧ Q .non (upd H l (.lst (xs ++ zs)))
theorem mt_extendT {X : Cx} : MtR X "list.extend" (rExtT X.K) := by
  intro pins s σ H x vs v us Q I rx rv h
  obtain ⟨l, b, xs, zs, rfl, rfl, hH, hB, hz, q⟩ := h
  cases rx
  obtain ⟨u, rfl, ru⟩ := rv.one
  cases ru
  obtain ⟨z, its, n, r, hl, e⟩ := I.lstM hH
  obtain ⟨its2, r2, ⟨⟨oc, dd, dt, sl⟩, ho, hc, n2, hd⟩, z2⟩ := I.tuple hB
  have hl2 := r2.length
  simp only at hc hd
  subst hc hd
  have hsz : its.toArray.size + its2.toArray.size ≤ sizeLine := by
    rw [List.size_toArray, List.size_toArray]
    omega
  have hlong : ¬ (!its.toArray.isEmpty && Builtin.List.listTooLong (its.toArray.size + its2.toArray.size)) = true := by
    rw [notLongL hsz, Bool.and_false]
    exact Bool.false_ne_true
  have hsm : its.toArray.size ≤ sizeLine := by
    rw [List.size_toArray]
    omega
  refine call_meets F.slot_list_extend ⟨_, e, rfl⟩ F.entry_list_extend (F.args_list_extend_2 _ _)
    (extend_tup_meets l its.toArray n b its2.toArray n2 dd sl hlong hsm hsz) ⟨e, ho, ?_⟩
  have hle : (xs ++ zs).length ≤ sizeLine := by
    rw [List.length_append]
    omega
  exact ⟨.non, _, I.lset (its' := its ++ its2) hH e (by simp) (r.append r2) hle, rfl, q⟩

/-- t.count(k), t a tuple of ints -/
def rCntT (K : PySem.W.Frag) : V → List V → Hp → VK → Prop := fun x xs H Q => ∃ (p : Addr) (ns : List Int) (k : Int), x = .ref p ∧ xs = [.int k] ∧ SqT K H p (ns.map V.int) ∧
  Q (.int (ns.count k : Nat)) H
theorem mt_tcount {X : Cx} : MtR X "tuple.count" (rCntT X.K) := by
  intro pins s σ H x xs v us Q I rx rxs h
  obtain ⟨p, ns, k, rfl, rfl, hs, q⟩ := h
  cases rx
  obtain ⟨u, rfl, ru⟩ := rxs.one
  obtain ⟨t, rfl⟩ := ru
  obtain ⟨its, rv, ⟨⟨oc, dd, dt, sl⟩, ho, hc, n, hd⟩, hlen⟩ := I.tuple hs
  simp only at hc hd
  subst hc hd
  have hi := rv.ints
  have ec : its.toArray.toList.countP (eqk k) = ns.count k := eqk_count hi
  refine call_meets F.slot_tuple_count ⟨_, ho, rfl⟩ F.entry_tuple_count (F.args_tuple_count_2 _ _)
    (SeqAt.tuple_countAt p its.toArray n dd sl (.int k t) (eqk k)) ⟨ho, fun y hy => (eqk_gives hi y (by simpa using hy)).at _ _, ?_⟩
  rw [ec]
  exact ⟨.int (ns.count k : Nat), H, I.tok _, ⟨s.toks, rfl⟩, q⟩

/-! ### enumerate over a tuple -/
theorem enum_tuple_meets (l : Addr) (items : Array Value) (n : Nat) (dct : Option Addr) (sl : Array (Option Value)) :
    Meets (Builtin.«enumerate.__new__» ⟨[.type "enumerate", .ref l], []⟩) (fun _ R s =>
      s.heap.get? l = some { cls := .type "tuple", dict := dct, data := .seq items n, slots := sl } ∧
      R (.ok (.ret (.ref (s.heap.push { cls := .type "tuple_iterator", data := .fields #[.ref l, .int 0 0] }).objs.size)))
        { s with heap := (s.heap.push { cls := .type "tuple_iterator", data := .fields #[.ref l, .int 0 0] }).push { cls := .type "enumerate", data := .fields #[.none, .bool false, .ref s.heap.objs.size, rawInt 0, .none, .none] } }) :=
  .of_wp fun prog w A R s h => by
    obtain ⟨hp, g, d, tk, os⟩ := s
    obtain ⟨hl, h⟩ := h
    have hsub := sub_enumerate
    have hL : Heap.IsTuple (Shared.heap ⟨hp, g, d, tk, os⟩) l items := ⟨_, hl, rfl, n, rfl⟩
    wp_walk using AutoSeq1.wpAny_loadPart' hl
    refine wpAny_stack_any fun st => wpAny_pure ?_
    split
    · rename_i c _ _ _ _ _
      cases (c == Value.type "enumerate")
      all_goals
        wp_walk using AutoSeq1.wpAny_loadPart' hl, wpAny_pyIter_tuple hL
        exact ⟨_, rfl, h⟩
    · wp_walk using AutoSeq1.wpAny_loadPart' hl, wpAny_pyIter_tuple hL
      exact ⟨_, rfl, h⟩
theorem call_enum_tuple {prog : Program} {w : World} {A : Around} {E : Value → Shared → Prop} {s : Shared} {l : Addr} {items : Array Value} {Q : Value → Shared → Prop} (hL : s.heap.IsTuple l items)
    (h : ∀ h', IsEnum h' (s.heap.objs.size + 1) s.heap.objs.size 0 .none → h'.IsTupleIter s.heap.objs.size l 0 →
      (∀ b o, s.heap.get? b = some o → h'.get? b = some o) → Q (.ref (s.heap.objs.size + 1)) { s with heap := h' }) :
    wpAny (model prog w) A (call (.type "enumerate") [.ref l]) Q E s := by
  obtain ⟨⟨oc, dct, dt, sl⟩, hl, hc, n, hd⟩ := hL
  simp only at hc hd
  subst hc hd
  refine callType_new F.called_enumerate (by decide) (F.typeCall_enumerate_1 _) (F.newCall_enumerate_1 _) (fun obj => F.args_object_init_2 obj _) F.entry_enumerate_new
    (enum_tuple_meets l items n dct sl) ⟨hl, ?_⟩
  have hz : (s.heap.push { cls := .type "tuple_iterator", data := .fields #[.ref l, .int 0 0] }).objs.size = s.heap.objs.size + 1 := Heap.size_push ..
  show _ ∧ _
  rw [hz]
  have he : IsEnum ((s.heap.push { cls := .type "tuple_iterator", data := .fields #[.ref l, .int 0 0] }).push
      { cls := .type "enumerate", data := .fields #[.none, .bool false, .ref s.heap.objs.size, rawInt 0, .none, .none] }) (s.heap.objs.size + 1) s.heap.objs.size 0 .none := by
    have z := Heap.get?_push_size (s.heap.push { cls := .type "tuple_iterator", data := .fields #[.ref l, .int 0 0] })
      (o := { cls := .type "enumerate", data := .fields #[.none, .bool false, .ref s.heap.objs.size, rawInt 0, .none, .none] }) rfl
    rw [hz] at z
    exact z
  exact ⟨⟨_, he, rfl⟩, h _ he ⟨_, Heap.get?_push_of_some _ (Heap.get?_push_size _ rfl), rfl, rfl⟩ fun b o x => Heap.get?_push_of_some _ (Heap.get?_push_of_some _ x)⟩

/-- the tuple at a, each item in a new pair -/
def IteT (K : PySem.W.Frag) (a : Addr) : It :=
  ⟨fun i H => ∃ (xs : List V) (x : V), SqT K H a xs ∧ xs[i]? = some x,
   fun i H v H' => ∃ T x, v = .ref T ∧ H T = none ∧ H' = upd H T (.tup [.int (i : Nat), x]) ∧ ∀ xs, SqT K H a xs → xs[i]? = some x,
   fun i H => ∃ xs : List V, SqT K H a xs ∧ xs.length = i⟩
theorem enum_ne {h : Heap} {e it a : Addr} {k : Int} {old : Value} {items : Array Value} (he : IsEnum h e it k old) (ht : IsTup h a items) : e ≠ a := by
  intro z
  subst z
  obtain ⟨o, ho, hc, _⟩ := ht
  have q : h.get? e = some _ := he
  rw [ho] at q
  have q2 := Option.some.inj q
  rw [q2] at hc
  have hc' : Value.type "enumerate" = Value.type "tuple" := hc
  exact absurd hc' (by decide)
theorem turn_enumT {P : Program} {w : World} {K : PySem.W.Frag} {elts : List Expr} {kk : Nat} {tpos : Pos} (a e it : Addr) :
    Turn P w K (.Tuple elts kk tpos) (IteT K a) [e, it] e (fun i h => (∃ old, IsEnum h e it ((i : Nat) : Int) old) ∧ h.IsTupleIter it a i ∧ e ≠ it) where
  mem := List.mem_cons_self
  obj := fun i h st b hb => by
    obtain ⟨⟨old, he⟩, ⟨o, ho, hc, hd⟩, _⟩ := st
    rcases List.mem_cons.mp hb with z | z
    · subst z
      exact ⟨_, he, fun v q => by cases q⟩
    · have z2 := List.mem_singleton.mp z
      exact ⟨o, by rw [z2]; exact ho, fun v q => by rw [hd] at q; cases q⟩
  keep := fun i h h' st k => by
    obtain ⟨⟨old, he⟩, hi, hne⟩ := st
    exact ⟨⟨old, k e (by simp) _ he⟩, hi.at fun o q => k it (by simp) o q, hne⟩
  item := by
    intro X hP hw hK hc i pins s σ H E I hf st hg
    subst hP hw hK
    obtain ⟨⟨old, he⟩, hit, hne⟩ := st
    obtain ⟨xs, x, hq, hx⟩ := hg
    obtain ⟨its, rv, p, hz⟩ := I.tuple hq
    obtain ⟨u, hu, ru⟩ := rv.get hx
    have hel : e < s.heap.objs.size := Heap.lt_size he
    have hil : it < s.heap.objs.size := by
      obtain ⟨_, q, _⟩ := hit
      exact Heap.lt_size q
    have hea := enum_ne he p
    have hia : it ≠ a := fun z => by
      obtain ⟨o, q, hoc, _⟩ := id hit
      obtain ⟨o2, q2, hoc2, _⟩ := id p
      rw [z, q2] at q
      have q3 := hoc2.symm.trans ((congrArg Obj.cls (Option.some.inj q)).trans hoc)
      exact absurd q3 (by decide)
    have D := Draws.tuple (prog := X.prog) (w := X.w) (A := X.A.in1) (I.ok.hd hc) it a (Ne.symm hia) its.toArray
    have hlt : i < its.toArray.size := by
      rw [List.size_toArray]
      exact (List.getElem?_eq_some_iff.mp hu).1
    refine wpAny_pyNext_enum_itemD D he ⟨hit, p⟩ hlt hne (by simp [hne, hea]) fun x' h' tk hP ho hst hT hsz hk => ?_
    have ex : x' = u := by
      have q : its.toArray[i]? = some x' := hP
      rw [List.getElem?_toArray, hu] at q
      exact (Option.some.inj q).symm
    subst ex
    refine ⟨_, rfl, wpAny_letOwnedTupleGo_enum (s := { s with heap := h', toks := tk + 1 }) ho fun h'' he' sb => ?_⟩
    have hT2 : h''.get? s.heap.objs.size = some { cls := .type "tuple", data := .seq #[.int i tk, x'] } := (sb.2 _ (Nat.ne_of_gt hel)).trans hT
    have new : ObjOk X.prog X.w (upd H s.heap.objs.size (.tup [.int (i : Nat), x])) h'' s.heap.objs.size (.tup [.int (i : Nat), x]) :=
      ⟨by show 2 ≤ sizeLine; decide, [.int i tk, x'], .cons ⟨_, rfl⟩ (.cons ru .nil), ⟨_, hT2, rfl, _, rfl⟩⟩
    have kk : ∀ b ob, b ∉ [e, it] → s.heap.get? b = some ob → h''.get? b = some ob := fun b ob hb q => by
      have b1 : b ≠ e := fun z => hb (by simp [z])
      have b2 : b ≠ it := fun z => hb (by simp [z])
      exact (sb.2 b b1).trans (hk b ob b1 b2 q)
    have I1 : Inv X pins σ (upd H s.heap.objs.size (.tup [.int (i : Nat), x])) { s with heap := h'', toks := tk + 1 } :=
      I.turnedNew (ch := [e, it]) kk hf (Nat.le_refl _) new
    refine ⟨.ref s.heap.objs.size, _, I1, rfl, ⟨_, x, rfl, I.hok.fresh (Nat.le_refl _), rfl, fun ys hy => by rw [I.tuple_inj hy hq]; exact hx⟩,
      ⟨⟨x', ?_⟩, hst.1.at fun o q => (sb.2 it (Ne.symm hne)).trans q, hne⟩, fun b hb => ?_⟩
    · have e1 : ((i + 1 : Nat) : Int) = (i : Int) + 1 := by omega
      rw [e1]
      exact he'
    · have hb' : b < s.heap.objs.size := by
        rcases List.mem_cons.mp hb with z | z
        · rw [z]
          exact hel
        · rw [List.mem_singleton.mp z]
          exact hil
      rw [upd_ne (Nat.ne_of_lt hb')]
      exact (hf b hb).1
  done := by
    intro X hP hw hK hc i pins s σ H E I hf st hg
    subst hP hw hK
    obtain ⟨⟨old, he⟩, hit, hne⟩ := st
    obtain ⟨xs, hq, hx⟩ := hg
    obtain ⟨its, rv, p, hz⟩ := I.tuple hq
    obtain ⟨f0, f1, f2, f3, f4, f5⟩ := hf it (by simp)
    have hl := rv.length
    have hia : it ≠ a := fun z => by
      obtain ⟨o, q, hoc, _⟩ := id hit
      obtain ⟨o2, q2, hoc2, _⟩ := id p
      rw [z, q2] at q
      have q3 := hoc2.symm.trans ((congrArg Obj.cls (Option.some.inj q)).trans hoc)
      exact absurd q3 (by decide)
    have D := Draws.tuple (prog := X.prog) (w := X.w) (A := X.A.in1) (I.ok.hd hc) it a (Ne.symm hia) its.toArray
    have hit' : s.heap.IsTupleIter it a its.toArray.size := by
      rw [List.size_toArray, ← hl, hx]
      exact hit
    exact wpAny_pyNext_enum_endD D he ⟨hit', p⟩ fun h' eb => ⟨rfl, I.turned (t' := s.toks) (fun b o hb q => eb b o hb q) f0 f1 f3 f4 f5⟩
  self := fun A i s Q E st h => by
    obtain ⟨⟨_, he⟩, _⟩ := st
    exact wpAny_pyIter_enum he h
def iEnumT (K : PySem.W.Frag) (ta : TA) : TI := fun σ H R => ta σ H fun vs H1 => ∃ a xs, vs = [.ref a] ∧ SqT K H1 a xs ∧ R (IteT K a) H1
theorem pi_enumT {X : Cx} {e : Expr} {ta : TA} {p pos tpos : Pos} {elts : List Expr} {kk : Nat} (hg : Gl X "enumerate") (hm : X.mg "enumerate" = none) (ha : PA X [e] ta)
    (hs : starEach [e] X.env = [(false, eval e X.env)] := by rfl) :
    PI X (.Tuple elts kk tpos) (.Call (.Name "enumerate" p) [e] [] pos) (iEnumT X.K ta) := by
  refine ⟨fun pins s σ H R I h => ?_⟩
  refine Call_ (ld_blt I hg hm boot_enumerate (PyProof.Rows.callWith_type1 (thn (ha.run pos pins s σ H _ I h) fun us s1 ⟨vs, H1, I1, r1, a, xs, ex, hq, q⟩ => ?_) hs rfl))
  subst ex
  rw [Vals.ref1 r1]
  obtain ⟨its, rv, p', hz⟩ := I1.tuple hq
  refine call_enum_tuple (show s1.heap.IsTuple a its.toArray from p') fun h' he hit hk => wpAny_pyIter_enum he ?_
  have I2 : Inv X pins σ H1 { s1 with heap := h' } := I1.kept (t' := s1.toks) hk
  refine ⟨s1.heap.objs.size + 1, [s1.heap.objs.size + 1, s1.heap.objs.size], _, _, H1, rfl, I2, turn_enumT a (s1.heap.objs.size + 1) s1.heap.objs.size,
    ⟨⟨.none, he⟩, hit, Nat.succ_ne_self _⟩, fun b hb => ?_, q⟩
  have hle : s1.heap.objs.size ≤ b := by
    rcases List.mem_cons.mp hb with z | z
    · rw [z]
      exact Nat.le_succ _
    · rw [List.mem_singleton.mp z]
      exact Nat.le_refl _
  exact I1.fpOk hle (I1.hok.fresh hle)
/-- for i, x in enumerate(t), the tuple t left as it is -/
theorem for_enumT {K : PySem.W.Frag} {a : Addr} {xs : List V} {g : TG} {tb : TS} {D : Ends} {σ : L2.St} {H : Hp} (Pv : Nat → L2.St → Hp → Prop) (h0 : Pv 0 σ H)
    (hl : ∀ i σ H, i ≤ xs.length → Pv i σ H → SqT K H a xs)
    (hs : ∀ i x T σ H, xs[i]? = some x → Pv i σ H → H T = none → g (.ref T) σ (upd H T (.tup [.int (i : Nat), x])) fun σ2 H2 => tb { D with nx := Pv (i + 1), ct := Pv (i + 1), bk := D.nx } σ2 H2)
    (hd : ∀ σ H, Pv xs.length σ H → D.nx σ H) :
    ∃ W : Nat → Nat → L2.St → Hp → Prop, (∃ m, W 0 m σ H) ∧ ∀ i m σ H, W i m σ H →
      ((IteT K a).stop i H ∧ D.nx σ H) ∨ ((IteT K a).go i H ∧ ∃ N : L2.St → Hp → Prop, (∀ σ' H', N σ' H' → ∃ m', m' < m ∧ W (i + 1) m' σ' H') ∧
        ∀ x H', (IteT K a).yld i H x H' → g x σ H' fun σ2 H2 => tb { D with nx := N, ct := N, bk := D.nx } σ2 H2) := by
  refine ⟨fun i m σ H => m = xs.length - i ∧ i ≤ xs.length ∧ Pv i σ H, ⟨xs.length, by simp, Nat.zero_le _, h0⟩, fun i m σ H h => ?_⟩
  obtain ⟨em, hi, p⟩ := h
  have q := hl i σ H hi p
  by_cases hlt : i < xs.length
  · refine .inr ⟨⟨xs, xs[i], q, List.getElem?_eq_getElem hlt⟩, Pv (i + 1), fun σ' H' p' => ⟨xs.length - (i + 1), by omega, rfl, hlt, p'⟩, fun v H' y => ?_⟩
    obtain ⟨T, x, rfl, hT, rfl, hx⟩ := y
    exact hs i x T σ H (hx xs q) p hT
  · have e : i = xs.length := by omega
    exact .inl ⟨⟨xs, q, e.symm⟩, hd σ H (by rw [← e]; exact p)⟩

/-! ### f(k = v, ..): keywords alone -/
theorem pe_callK0 {X : Cx} {CX : CXT} {k : Nat} {f : Addr} {fd : FuncData} {ps ks : List Str} {sp : Sp} {E : XK} {g : List Value → List Value → List Value} {gV : List V → List V → List V} {x : Str} {kws : List Keyword} {tk : TA} {p pos : Pos}
    (F : FnOk X.prog X.w X.K X.mg X.base CX k f fd ps sp) (hr : Room k X.A) (hg : Gl X x) (hm : X.mg x = some (.ref f)) (hk : PySem.W.keepIn X.K (.ref f) = true) (hb : KBinds X.K fd ps ks g gV) (hx : Passes CX X E)
    (hkw : PK X kws tk) (hall : (backToKw pos (keywordEach kws X.env)).all (·.1.isSome) = true := by rfl) (hks : (backToKw pos (keywordEach kws X.env)).filterMap (·.1) = ks := by rfl)
    (hdb : (x == ("__debug__" : Str)) = false := by decide)
    (hpl : ((backTo pos (starEach [] X.env)).any (·.1) || (backToKw pos (keywordEach kws X.env)).any (·.1.isNone)) = false := by rfl) :
    PE X (.Call (.Name x p) [] kws pos) (fun σ H Q => tk σ H fun zs H2 => sp (gV [] zs) H2 Q E) := by
  refine ⟨fun pins s σ H Q I h => ?_⟩
  refine wpAny_Call_Name_kw (ld_glob I hg hm ?_ hdb)
  refine PySem.W.callWith_KW0 (h₀ := X.base) I.ok.mod.kin hk hall (thn (hkw.run pos pins s σ H _ I h) fun ws s2 ⟨zs, H2, I2, rz, q2⟩ => ⟨I2.kIn, ?_⟩) hpl
  rw [hks]
  exact run_fnk F hr hb hx I2 .nil rz q2
end G93

set_option Elab.async false
set_option linter.all false
set_option maxRecDepth 100000
set_option maxHeartbeats 4000000
/-! further rules over the hand layer: a tuple turned about, sorted of a tuple of tuples of ints -/
namespace G93
open PySem PySem.Spec PyProof.Rows L2

section
variable {prog : Program} {w : World} {A : Around} {E : Value → Shared → Prop} {s : Shared}
theorem rev_applied {sl : Addr} {vl vu vs : Value} {n : Nat} {Q : Int × Int × Nat → Shared → Prop} (hs : s.heap.IsSliceOf sl vl vu vs) (pl : IsPart vl none) (pu : IsPart vu none) (ps : IsPart vs (some (-1)))
    (h : Q ((n : Int) - 1, -1, n) s) : wpAny (model prog w) A (Builtin.Slice.sliceApplied (.ref sl) (pure (n : Int))) Q E s := by
  obtain ⟨os, hos, hcs, hds⟩ := id hs
  unfold Builtin.Slice.sliceApplied Builtin.Slice.sliceFields
  have e3 : Builtin.Slice.slicePlaces ((n : Int) - 1) (-1) (-1) = n := by
    unfold Builtin.Slice.slicePlaces
    rw [if_neg (by decide)]
    by_cases hn : (n : Int) - 1 > -1
    · rw [if_pos hn]
      have : ((n : Int) - 1 - -1 - 1) / (- -1) + 1 = n := by
        rw [show (- -1 : Int) = 1 by decide, Int.ediv_one]
        omega
      rw [this]
      omega
    · rw [if_neg hn]
      omega
  refine wpAny_bind (wpAny_bind (wpAny_field hos hds (x := vl) rfl (wpAny_bind (wpAny_field hos hds (x := vu) rfl (wpAny_bind (wpAny_field hos hds (x := vs) rfl (wpAny_pure ?_)))))))
  refine wpAny_bind (HT.slicePart_ ps ?_)
  show wpAny _ _ (if ((-1 : Int) == 0) = true then _ else _) _ _ s
  rw [if_neg (by decide)]
  refine wpAny_bind (HT.slicePart_ pl (wpAny_bind (HT.slicePart_ pu (wpAny_bind (wpAny_pure ?_)))))
  show wpAny _ _ (pure ((n : Int) - 1, (-1 : Int), Builtin.Slice.slicePlaces ((n : Int) - 1) (-1) (-1))) _ _ s
  rw [e3]
  exact wpAny_pure h
theorem fm_congr {α β : Type} {f g : α → Option β} : ∀ {l : List α}, (∀ x ∈ l, f x = g x) → l.filterMap f = l.filterMap g
  | [], _ => rfl
  | x :: l, h => by
    rw [List.filterMap_cons, List.filterMap_cons, h x List.mem_cons_self, fm_congr fun y hy => h y (List.mem_cons_of_mem _ hy)]
theorem rev_pick (xs : List Value) : ((List.range xs.length).filterMap fun (m : Nat) => xs.toArray[(((xs.length : Nat) : Int) - 1 + (m : Int) * -1).toNat]?).toArray = xs.reverse.toArray := by
  congr 1
  have h : ∀ m ∈ List.range xs.length, xs.toArray[(((xs.length : Nat) : Int) - 1 + (m : Int) * -1).toNat]? = xs.reverse[m]? := by
    intro m hm
    have hm' := List.mem_range.mp hm
    rw [List.getElem?_toArray, List.getElem?_reverse hm']
    congr 1
    omega
  rw [fm_congr h]
  have e := HT.pick_gen xs.reverse.toArray 0 xs.length
  have e2 : (fun (m : Nat) => xs.reverse.toArray[(((0 : Nat) : Int) + (m : Int) * 1).toNat]?) = fun m => xs.reverse[m]? := by
    funext m
    rw [List.getElem?_toArray]
    congr 1
    omega
  rw [e2] at e
  have e3 := congrArg Array.toList e
  rw [List.toList_toArray, List.toList_toArray, List.toList_toArray, List.drop_zero] at e3
  rw [e3]
  exact List.take_of_length_le (by rw [List.length_reverse]; exact Nat.le_refl _)
theorem rev_tuple {t sl : Addr} {items : List Value} {vl vu vs : Value} {Q : Value → Shared → Prop} (ht : IsTup s.heap t items.toArray) (hs : s.heap.IsSliceOf sl vl vu vs) (pl : IsPart vl none) (pu : IsPart vu none) (ps : IsPart vs (some (-1)))
    (h : Q (.ref s.heap.objs.size) { s with heap := s.heap.push { cls := .type "tuple", data := .seq items.reverse.toArray } })
    (hsz : items.length ≤ sizeLine) : wpAny (model prog w) A (getItem (.ref t) (.ref sl)) Q E s := by
  have htake : sizeOk (.seq items.reverse.toArray) := by
    show items.reverse.toArray.size ≤ sizeLine
    rw [List.size_toArray, List.length_reverse]
    exact hsz
  obtain ⟨os, hos, hcs, hds⟩ := id hs
  have hTs : s.TypeIs (.ref sl) "slice" := ⟨os, hos, hcs⟩
  unfold getItem
  try with_reducible refine wpAny_holding ?_
  first | refine wpAny_bind (wpAny_pure ?_) | skip
  refine wpAny_bind (wpAny_sequenceKey ht.typeIs (by decide) (wpAny_bind (wpAny_callSpecial?_slot (name := Str.ofString "__getitem__") ht.typeIs PyProof.Rows.slot_tuple_getitem
    (wpAny_call_entry PyProof.Rows.slot_tuple_getitem ht.typeIs entry_tuple_getitem ?_ (args_tuple_getitem _ _)))))
  show wpAny _ _ (Builtin.Tuple.tupleItemsOf (.ref t) >>= _) _ _ s
  refine wpAny_bind (tupleItemsOf_ ht (wpAny_bind (wpAny_typeOf hTs ?_)))
  rw [if_pos (by decide)]
  refine wpAny_bind (rev_applied hs pl pu ps ?_)
  have hno : ¬ ((((items.toArray.size : Nat) : Int) - 1 == 0 && (-1 : Int) == 1 && items.toArray.size == items.toArray.size) = true) := by
    intro q
    rw [Bool.and_eq_true, Bool.and_eq_true] at q
    exact absurd q.1.2 (by decide)
  show wpAny _ _ (if ((((items.toArray.size : Nat) : Int) - 1 == 0 && (-1 : Int) == 1 && items.toArray.size == items.toArray.size) = true) then _ else _) _ _ s
  rw [if_neg hno]
  have ep := rev_pick items
  have es : items.toArray.size = items.length := List.size_toArray ..
  rw [es, ep]
  first
    | exact wpAny_bind (m := Builtin.Tuple.tupleExact _) (wpAny_newObj_type (wpAny_pure ⟨_, rfl, wpAny_pure h⟩) htake)
    | exact wpAny_bind (m := Builtin.Tuple.tupleExact _) (wpAny_newObj_type (wpAny_bind (wpAny_pure (wpAny_pure ⟨_, rfl, wpAny_pure h⟩))) htake)
    | exact wpAny_bind (wpAny_bind (m := Builtin.Tuple.tupleExact _) (wpAny_newObj_type (wpAny_pure (wpAny_pure ⟨_, rfl, wpAny_pure h⟩)) htake))
end
/-- t[::-1] -/
def tRevT (K : PySem.W.Frag) (te : TE) : TE := fun σ H Q => te σ H fun x H1 => ∃ a xs, x = .ref a ∧ SqT K H1 a xs ∧ ∀ p, H1 p = none → Q (.ref p) (upd H1 p (.tup xs.reverse))
theorem pe_revT {X : Cx} {e : Expr} {te : TE} {k : Nat} {p1 p2 p3 pos : Pos} (he : PE X e te) :
    PE X (.Subscript e (.Slice none none (some (.UnaryOp .USub (.Constant (.int 1) k p1) p2)) p3) pos) (tRevT X.K te) := by
  refine ⟨fun pins s σ H Q I h => ?_⟩
  refine Subscript_ (thn (he.run pins s σ H _ I h) fun v s1 hh => ?_)
  obtain ⟨x, H1, I1, r1, a, xs, ex, hx, q⟩ := hh
  subst ex
  cases r1
  have hst : PO X (some (.UnaryOp .USub (.Constant (.int 1) k p1) p2)) (tPart (tUn (rU fun i => .int (-i)) (tC (.int 1)))) := po_some (pe_un un_neg pe_int)
  refine wpAny_Slice (thn (po_none.run pins s1 σ H1 (fun o H2 => o = none ∧ H2 = H1) I1 ⟨rfl, rfl⟩) fun vl s2 h2 => ?_)
  obtain ⟨o2, H2, I2, pl, rfl, rfl⟩ := h2
  refine thn (po_none.run pins s2 σ H2 (fun o H3 => o = none ∧ H3 = H2) I2 ⟨rfl, rfl⟩) fun vu s3 h3 => ?_
  obtain ⟨o3, H3, I3, pu, rfl, rfl⟩ := h3
  refine thn (hst.run pins s3 σ H3 (fun o H4 => o = some (-1) ∧ H4 = H3) I3 ⟨1, rfl, -1, rfl, rfl, rfl⟩) fun vs s4 h4 => ?_
  obtain ⟨o4, H4, I4, ps, rfl, rfl⟩ := h4
  have I5 : Inv X pins σ H4 { s4 with heap := s4.heap.push { cls := .type "slice", data := .fields #[vl, vu, vs] } } := I4.kept (t' := s4.toks) fun b ob q => Heap.get?_push_of_some _ q
  obtain ⟨its, r, ht, hz⟩ := I5.tuple hx
  have hlen := r.length
  show wpAny (model X.prog X.w) X.A (subscriptTail e (.Slice none none (some (.UnaryOp .USub (.Constant (.int 1) k p1) p2)) p3) (.ref a) (.ref s4.heap.objs.size)) _ _ _
  refine tail_any (ops := [.ref a, .ref s4.heap.objs.size]) ht.typeIs (PyProof.Rows.slot_tuple_getitem.lookup) ?_ (by with_unfolding_all rfl)
  refine rev_tuple ht (Heap.IsSliceOf.new _ vl vu vs) pl pu ps ?_ (by omega)
  have hz' : xs.reverse.length ≤ sizeLine := by
    rw [List.length_reverse]
    exact hz
  exact ⟨.ref _, _, I5.laid (t' := s4.toks) (o := .tup xs.reverse) (fun b ob q => Heap.get?_push_of_some _ q) (Nat.le_refl _) ⟨hz', its.reverse, r.reverse, IsTup.new _ _⟩, rfl, q _ (I5.hok.fresh (Nat.le_refl _))⟩

/-! ### sorted of a tuple -/
section
open PySem.W
variable {prog : Program} {w : World} {A : Around} {E : Value → Shared → Prop} {s : Shared}
theorem collect_tup {l : Addr} {vs : List Value} {Q : List Value → Shared → Prop} (hl : IsTup s.heap l vs.toArray)
    (h : Q vs { s with heap := (s.heap.push (seqObj "list" #[] 0)).update s.heap.objs.size (Obj.mapSeq (· ++ vs.toArray)) }) (hsz : vs.length ≤ sizeLine) :
    wpAny (model prog w) A (collect (.ref l)) Q E s := by
  obtain ⟨o, ho, hc, n, hd⟩ := id hl
  have hne : l ≠ s.heap.objs.size := Nat.ne_of_lt (Heap.lt_size ho)
  have hS : (s.heap.push (seqObj "list" #[] 0)).get? s.heap.objs.size = some { cls := .type "list", data := .seq #[] 0 } := Heap.get?_push_size _ rfl
  have hS' := Heap.get?_update_self (Obj.mapSeq (· ++ vs.toArray)) hS rfl
  unfold collect
  refine wpAny_bind (wpAny_runValue (codeAny_builtin F.entry_proto_collect ?_))
  rw [Around.under_plainId F.plain_proto_collect _]
  show wpAny _ A.in1 (newList [] >>= fun l₁ => again (.builtin "list.__iadd__" ⟨[l₁, .ref l], []⟩)) _ _ s
  refine wpAny_bind (wpAny_newObj_type (wpAny_pure ⟨plainId_quiet F.plain_list_iadd _, codeAny_builtin F.entry_list_iadd ?_⟩))
  rw [Around.under_plainId F.plain_list_iadd _]
  show wpAny _ A.in1 (Builtin.List.listExtendWith (.ref s.heap.objs.size) (.ref l) (.ref s.heap.objs.size)) _ _ _
  refine wpAny_mono (wpAny_extend_seq (A := A) (s := { s with heap := s.heap.push (seqObj "list" #[] 0) }) (R := fun rr s' => rr = .ok (.ret (.ref s.heap.objs.size)) ∧ s' = { s with heap := (s.heap.push (seqObj "list" #[] 0)).update s.heap.objs.size (Obj.mapSeq (· ++ vs.toArray)) })
    s.heap.objs.size l (.ref s.heap.objs.size) 0 (T := "tuple") (.inr rfl) hS (Heap.get?_push_of_some _ ho) hc hd ⟨rfl, rfl⟩ (by rw [List.size_toArray]; exact hsz)) (fun fin s' hf => ?_) (fun e s' hf => ?_)
  · have last : ∀ s'' : Shared, s'' = { s with heap := (s.heap.push (seqObj "list" #[] 0)).update s.heap.objs.size (Obj.mapSeq (· ++ vs.toArray)) } →
        wpAny (model prog w) A (load s.heap.objs.size >>= fun o => match o.data with | .seq xs _ => pure xs.toList | _ => unsupported "internal:collect") Q E s'' := fun s'' e => by
      subst e
      refine wpAny_bind (wpAny_load hS' ?_)
      show wpAny _ _ (pure ((#[] ++ vs.toArray : Array Value).toList)) _ _ _
      have e2 : ((#[] ++ vs.toArray : Array Value).toList) = vs := by simp
      rw [e2]
      exact wpAny_pure h
    cases fin with
    | done f =>
      obtain ⟨e1, e2⟩ := hf
      cases e1
      exact last _ e2
    | again c' =>
      refine ⟨hf.1, codeAny_mono hf.2 fun rr s'' hr => ?_⟩
      obtain ⟨rfl, e2⟩ := hr
      exact last _ e2
  · exact absurd hf.1 (by simp)
theorem sorted_tup {β : Type} {vs : List Value} {bs : List β} {enc : β → PyData} {R : Value → β → Prop} {l : Addr} {Q : Value → Shared → Prop} (hl : IsTup s.heap l vs.toArray) (e : EachIs R vs bs)
    (er : EachIs (fun v b => ∃ as, Reads s.heap v (enc b) as) vs bs) (hal : AllAlike (bs.map enc)) (hk : Sortable (bs.map enc)) (hL : bs.length ≤ sizeLine)
    (hu : ∀ b, b ∈ bs → A.units + 2 + (enc b).depth < cLine) (h : ∀ out, out.length = bs.length → EachIs R out (bs.mergeSort (dataLe false enc)) → Q (.ref (s.heap.objs.size + 1)) { s with heap := sortedAll s.heap vs (List.toArray out) }) :
    wpAny (model prog w) A (call (.builtin "sorted") [.ref l]) Q E s := by
  have hL' : vs.length ≤ sizeLine := by
    rw [e.length]
    exact hL
  have er' : EachIs (fun v b => ∃ as, Reads (sortingHeap (copyHeap s.heap vs) (s.heap.objs.size + 1) vs) v (enc b) as) vs bs := er.mono fun _ _ ⟨as, r⟩ => ⟨as, PyProof.Rows.Reads.keeps (fun _ _ => sorting_copy_old) r⟩
  have S : SortsAt prog w A.in1.in1 { s with heap := sortingHeap (copyHeap s.heap vs) (s.heap.objs.size + 1) vs } _ vs := SortsAt.data (s := { s with heap := sortingHeap (copyHeap s.heap vs) (s.heap.objs.size + 1) vs })
    (each_map (R := fun v d => ∃ as, Reads (sortingHeap (copyHeap s.heap vs) (s.heap.objs.size + 1) vs) v d as) enc er') hal hk (bound_map hu)
  have fin := h _ (by rw [sortVals_length false rfl]; exact e.length) (sortVals_data false e er' hal)
  have body : ∀ E' : Value → Shared → Prop, wpAny (model prog w) A.in1.in1 (Builtin.«list.sort» ⟨[.ref (s.heap.objs.size + 1)], []⟩) (fun f s' => f = .done (.ret .none) ∧ Q (.ref (s.heap.objs.size + 1)) s') E' { s with heap := copyHeap s.heap vs } :=
    fun E' => list_sort_vals (s := { s with heap := copyHeap s.heap vs }) (copyHeap_at s.heap vs) S hL' ⟨rfl, fin⟩
  refine call_function_entry_kw kind_sorted plain_sorted entry_sorted (args_sorted1 _) ?_
  unfold Builtin.«sorted»
  refine wpAny_bind (m := checkCount "sorted" 1 1 _) (wpAny_pure (wpAny_bind (collect_tup hl (wpAny_bind (wpAny_newList ?_ hL')) hL')))
  have hsz : ((s.heap.push (seqObj "list" #[] 0)).update s.heap.objs.size (Obj.mapSeq (· ++ vs.toArray))).objs.size = s.heap.objs.size + 1 := by
    rw [Heap.size_update, size_push']
  rw [hsz]
  refine wpAny_bind (wpAny_holding (wpAny_call_entry_kw slot_list_sort ⟨_, copyHeap_at s.heap vs, rfl⟩ entry_list_sort (wpAny_mono (body _) (fun f s' hf => ?_) fun _ _ e => e) (args_list_sort _)))
  obtain ⟨rfl, hq⟩ := hf
  exact ⟨_, rfl, wpAny_pure ⟨_, rfl, hq⟩⟩
end
def dI (ns : List Int) : PyData := .tuple (ns.map .int)
def leG (a b : List Int) : Bool := !decide (b < a)
theorem dI_le (a b : List Int) : (!PySem.W.dataLt (dI b) (dI a)) = leG a b := by
  have h := PySem.W.dataLt_ints b a
  unfold dI leG
  rw [PySem.W.dataLt_tuple]
  show (!PySem.W.rowLt (b.map .int) (a.map .int)) = _
  rw [h]
/-- sorted(t), t a tuple of tuples of ints, none of them empty -/
def rSortTT (K : PySem.W.Frag) : List V → Hp → VK → Prop := fun vs H Q => ∃ (a : Addr) (ps : List (V × List Int)), vs = [V.ref a] ∧ SqT K H a (ps.map (·.1)) ∧ (∀ p ∈ ps, Dp K H p.1 (dI p.2) ∧ p.2 ≠ []) ∧
  ∀ p, H p = none → Q (.ref p) (upd H p (.lst ((ps.mergeSort fun x y => leG x.2 y.2).map (·.1))))
theorem depth_dI (ns : List Int) : (dI ns).depth ≤ 1 := by
  unfold dI
  rw [PyData.depth, PySem.W.depth_ints]
  exact Nat.le_refl _
theorem cr_sortTT {X : Cx} (hu : X.A.units + 64 < cLine) : CallR X (.builtin "sorted") (rSortTT X.K) := by
  intro pins s σ H vs us Q I r h
  obtain ⟨a, ps, rfl, hs, hd, q⟩ := h
  rw [Vals.ref1 r]
  obtain ⟨its, rv, hl, hz⟩ := I.tuple hs
  rw [List.length_map] at hz
  have e : ∀ (ps : List (V × List Int)) (its : List Value), Vals (ps.map (·.1)) its → (∀ p ∈ ps, Dp X.K H p.1 (dI p.2) ∧ p.2 ≠ []) →
      PySem.W.EachIs (fun u (p : V × List Int) => RelV p.1 u) its ps ∧ PySem.W.EachIs (fun v (b : V × List Int) => ∃ as, Reads s.heap v (dI b.2) as) its ps := by
    intro ps
    induction ps with
    | nil =>
      intro its rv _
      cases rv
      exact ⟨.nil, .nil⟩
    | cons p ps ih =>
      intro its rv hd
      rw [List.map_cons] at rv
      cases rv with
      | cons r1 r2 =>
        obtain ⟨h1, h2⟩ := ih _ r2 fun q hq => hd q (List.mem_cons_of_mem _ hq)
        exact ⟨.cons r1 h1, .cons (Dp.reads I _ _ _ (hd p List.mem_cons_self).1 r1) h2⟩
  obtain ⟨e1, e2⟩ := e ps its rv hd
  have hal : PySem.W.AllAlike (ps.map fun b => dI b.2) := PySem.W.AllAlike.of fun b b' => by
    unfold dI
    rw [PySem.W.alike]
    exact PySem.W.alike_ints b.2 b'.2
  have hk : PySem.W.Sortable (ps.map fun b => dI b.2) := .inl fun d hd' => by
    obtain ⟨b, hb, rfl⟩ := List.mem_map.mp hd'
    have hne := (hd b hb).2
    unfold dI
    cases hb2 : b.2 with
    | nil => exact absurd hb2 hne
    | cons x r => exact ⟨_, _, rfl⟩
  refine sorted_tup (enc := fun b => dI b.2) hl e1 e2 hal hk (by omega) (fun b _ => ?_) fun out ho eo => ?_
  · have := depth_dI b.2
    omega
  · have er : ps.mergeSort (PySem.W.dataLe false fun b => dI b.2) = ps.mergeSort fun x y => leG x.2 y.2 := PySem.W.sort_congr fun x _ y _ => dI_le x.2 y.2
    rw [er] at eo
    have rv2 : ∀ (qs : List (V × List Int)) (out : List Value), PySem.W.EachIs (fun u (p : V × List Int) => RelV p.1 u) out qs → Vals (qs.map (·.1)) out := by
      intro qs
      induction qs with
      | nil =>
        intro out h
        cases h
        exact .nil
      | cons p ps ih =>
        intro out h
        cases h with
        | cons h1 h2 => exact .cons h1 (ih _ h2)
    obtain ⟨ep, he'⟩ := PyProof.Rows.sortedAll_at s.heap its out.toArray
    have hlen : ((ps.mergeSort fun x y => leG x.2 y.2).map (·.1)).length ≤ sizeLine := by
      rw [List.length_map, List.length_mergeSort]
      exact hz
    exact ⟨.ref _, upd H (s.heap.objs.size + 1) (.lst ((ps.mergeSort fun x y => leG x.2 y.2).map (·.1))), I.laid (t' := s.toks) (fun _ _ => PyProof.Rows.sortedAll_old) (Nat.le_succ _) ⟨hlen, out, ep, rv2 _ _ eo, he'⟩, rfl, q _ (I.hok.fresh (Nat.le_succ _))⟩
end G93

set_option Elab.async false
set_option linter.all false
set_option maxRecDepth 100000
set_option maxHeartbeats 4000000
/-! several except clauses, each with the same name for the error -/
namespace G93
open PySem PySem.Spec PyProof.Rows L2

/-- what the clauses 'except x as n' wish, one after the other; slot i is n's -/
def wAll (K : PySem.W.Frag) (i : Nat) (Wout : WX) (D : Ends) : List (Value × (Addr → Value → Option Addr → TS)) → WX
  | [] => Wout
  | (c, ts) :: r => fun cls d σ H => ∃ b, PySem.W.exmOne K cls c = some b ∧
      (b = true → ∀ a, H a = none → ts a cls d { nx := fun σ' H' => D.nx (σ'.set i none) H', rt := D.rt, bk := fun σ' H' => D.bk (σ'.set i none) H', ct := fun σ' H' => D.ct (σ'.set i none) H' } (σ.set i (some (.ref a))) H) ∧
      (b = false → wAll K i Wout D r cls d σ H)
inductive HdsAs (X : Cx) (n : Str) : List ExceptHandler → List (Value × (Addr → Value → Option Addr → TS)) → Prop
  | nil : HdsAs X n [] []
  | cons {x : Str} {c : Value} {ts : Addr → Value → Option Addr → TS} {b₀ : Stmt} {suite : List Stmt} {np pos' : Pos} {hds : List ExceptHandler} {l : List (Value × (Addr → Value → Option Addr → TS))} (hc : Names X x c)
      (hsu : ∀ (a : Addr) (oe : Obj) (cls : Value) (d : Option Addr) (pn : List (Addr × Obj)), Zc cls d oe → (∃ vs, oe.data = .fields vs) → PSs (X.suite a ((a, oe) :: pn)) (b₀ :: suite) (ts a cls d)) (r : HdsAs X n hds l) :
      HdsAs X n (.ExceptHandler (some (.Name x np)) (some n) (b₀ :: suite) pos' :: hds) ((c, ts) :: l)
section
variable {X : Cx} {n : Str} {i : Nat} {body : List Stmt} {h₀ : ExceptHandler} {hds : List ExceptHandler} {l : List (Value × (Addr → Value → Option Addr → TS))} {pos : Pos} {tb : WX → TS} {Wout : WX}
theorem ps_try_all (hs : X.stack = X.env :: X.outer) (hf : X.env.frame = some X.env.locals) (hN : X.N.Nodup) (hi : X.N[i]? = some n) (hln : X.env.kindOf n = some .local) (tk : Takes X Wout)
    (hb : ∀ (W : WX) (pn : List (Addr × Obj)) (xe : Value → Shared → Prop), Takes (X.tr pn xe) W → PassesOwn (model X.prog X.w) X.A X.env xe → PSs (X.tr pn xe) body (tb W))
    (hh : HdsAs X n (h₀ :: hds) l) : PS X (.Try body (h₀ :: hds) [] [] pos) (fun D σ H => tb (wAll X.K i Wout D l) D σ H) := by
  refine ⟨fun pins s σ H D I h => ?_⟩
  have ok := I.ok
  have hfr : X.A.frames = some (X.env :: X.outer) := ok.frames.trans (congrArg some hs)
  have hloc : Loc X.env.scope n := .inl hln
  have back : ∀ f s1, SP (X.tr (X.pn ++ pins) fun e s₁ => wpAny (model X.prog X.w) X.A (noteFrame e X.env) (fun _ s₂ => wpAny (model X.prog X.w) X.A (setFlight e none) (fun _ s₃ =>
      wpAny (model X.prog X.w) X.A (handleBy e X.env (h₀ :: hds)) (SP X pins D) X.xe s₃) X.xe s₂) X.xe s₁) [] D f s1 → SP X pins D f s1 := fun f s1 hsp => by
    cases f with
    | ret u =>
      obtain ⟨v, σ', H', J', r, q⟩ := hsp
      exact ⟨v, σ', H', J'.ofTry ok, r, q⟩
    | next =>
      obtain ⟨σ', H', J', q⟩ := hsp
      exact ⟨σ', H', J'.ofTry ok, q⟩
    | brk =>
      obtain ⟨σ', H', J', q⟩ := hsp
      exact ⟨σ', H', J'.ofTry ok, q⟩
    | cont =>
      obtain ⟨σ', H', J', q⟩ := hsp
      exact ⟨σ', H', J'.ofTry ok, q⟩
  refine wpAny_Try_except (wpAny_mono ((hb (wAll X.K i Wout D l) (X.pn ++ pins) (fun e s₁ => wpAny (model X.prog X.w) X.A (noteFrame e X.env) (fun _ s₂ => wpAny (model X.prog X.w) X.A (setFlight e none) (fun _ s₃ =>
    wpAny (model X.prog X.w) X.A (handleBy e X.env (h₀ :: hds)) (SP X pins D) X.xe s₃) X.xe s₂) X.xe s₁) (fun u s' xx => ?_) PassesOwn.looking).run [] s σ H D (I.toTry _) h) (fun f s1 hsp => ?_) (fun e s1 he => he))
  · -- an error has come
    obtain ⟨a, B, sI, pins', σ', H', cls, d, rfl, J', nb, up, sky, na, os, ag, w⟩ := xx
    have J : Inv X pins σ' H' sI := J'.ofTry ok
    have sky' : Sky B (X.env :: X.outer) a (Zc cls d) X.env.locals s'.heap := hs ▸ sky
    show wpAny (model X.prog X.w) X.A (noteFrame (.ref a) X.env) _ _ _
    refine Sky.land Zc.steady hfr hf sky' fun h3 fl3 up3 => ?_
    have J3 : Inv X pins σ' H' { s' with heap := h3 } := J.landed nb fl3.1 (up.trans up3) os ag
    obtain ⟨oe3, vs3, he3, hz3, hd3⟩ := fl3.there
    have nfr : a ∉ frs (X.env :: X.outer) := fun hm => by
      obtain ⟨_, o', e', hnf⟩ := (show h3.FunFrames B (X.env :: X.outer) from fl3.2.2.1).mem hm
      have q := Option.some.inj (he3.symm.trans e')
      exact hnf vs3 (by rw [← q]; exact hd3)
    have nL : a ≠ X.env.locals := fun z => nfr (List.mem_filterMap.mpr ⟨X.env, List.mem_cons_self, hf.trans (congrArg some z.symm)⟩)
    have nF : a ∉ X.fs := fun hm => by
      obtain ⟨e, he, q⟩ := List.mem_filterMap.mp hm
      exact nfr (List.mem_filterMap.mpr ⟨e, List.mem_cons_of_mem _ he, q⟩)
    have S3 := J3.suite he3 hd3 na nL nF
    have go : ∀ {hds' : List ExceptHandler} {l' : List (Value × (Addr → Value → Option Addr → TS))}, HdsAs X n hds' l' → wAll X.K i Wout D l' cls d σ' H' →
        wpAny (model X.prog X.w) X.A (handleBy (.ref a) X.env hds') (SP X pins D) X.xe { s' with heap := h3 } := by
      intro hds' l' hk
      induction hk with
      | nil =>
        intro w
        refine wpAny_handleBy_nil ?_
        obtain ⟨k1, k2, k3, oe, vs, T, oT, ts', he, hz, hd, h1, hr⟩ := id fl3
        unfold PySem.passOn
        have fin : wpAny (model X.prog X.w) X.A (setFlight (.ref a) X.env.frame) (fun _ s4 => wpAny (model X.prog X.w) X.A (throw (.ref a) : Sem Flow) (SP X pins D) X.xe s4) X.xe { s' with heap := h3 } := by
          rw [hf]
          refine HandSPX.setFlight_upZ fl3 fun h4 hh4 up4 => wpAny_throw (tk _ _ ?_)
          have sk : Sky B X.stack a (Zc cls d) X.env.locals h4 := .inr (.inr (by rw [hs]; exact hh4))
          exact ⟨a, B, sI, pins, σ', H', cls, d, rfl, J, nb, (up.trans up3).trans up4, sk, na, os, ag, w⟩
        refine wpAny_bind (wpAny_field he hd h1 ?_)
        have ht : ¬ ((Value.ref T == Value.none) = true) := by simp
        rw [if_neg ht]
        first
          | exact wpAny_bind (wpAny_pure (wpAny_bind fin))
          | exact wpAny_bind fin
      | @cons x c ts b₀ suite np pos' hds2 l2 hc hsu r ih =>
        intro w
        obtain ⟨b, hb1, hyes, hno⟩ := w
        refine wpAny_handleBy_cons (codeAny_handlers_test ?_) (by intro q; cases q)
        have LT : PySem.W.Looks (model X.prog X.w) h3 (typeOf (.ref a)) cls := fun A Q E s k q => wpAny_typeOf_ref (k _ _ he3) (hz3.1.symm ▸ q)
        have LM := PySem.W.exm_one (M := model X.prog X.w) (J3.kIn) LT hb1
        have test : ∀ {Q : Value → Shared → Prop} {E : Value → Shared → Prop}, Q c { s' with heap := h3 } → wpAny (model X.prog X.w) (X.A.mark (some (.ref a))) (eval (.Name x np) X.env) Q E { s' with heap := h3 } := fun {Q E} q => by
          obtain ⟨hg, hdbg, hm⟩ := hc
          rcases hm with hm | ⟨hm, hv, hnn⟩
          · exact ld_glob S3 hg hm q hdbg
          · exact ld_blt S3 hg hm hv q hnn hdbg
        refine test (LM.here ?_)
        cases b with
        | false =>
          show wpAny _ X.A (handleBy (.ref a) X.env hds2) _ _ _
          exact ih (hno rfl)
        | true =>
          refine codeAny_handlers_suite_as (HandSPX.lands_againZ fl3 fun h4 fl4 up4 => ?_)
          have J4 : Inv X pins σ' H' { s' with heap := h4 } := J.landed nb fl4.1 ((up.trans up3).trans up4) os ag
          obtain ⟨oe4, vs4, he4, hz4, hd4⟩ := fl4.there
          have S4 := J4.suite he4 hd4 na nL nF
          have end_ : ∀ {σ6 : L2.St} {H6 : Hp} {s6 : Shared} {Q : Shared → Prop}, Inv (X.suite a ((a, oe4) :: (X.pn ++ pins))) [] σ6 H6 s6 → (∀ s7, Inv X pins (σ6.set i none) H6 s7 → Q s7) →
              wpAny (model X.prog X.w) X.A (do bindName X.env n .none; unbindBehindTheSuite X.env n pos') (fun _ s7 => Q s7) X.xe s6 := fun {σ6 H6 s6 Q} S6 hq => gone_ok (S6.unsuite ok) hN hi hln hq
          refine store_ok (X := X.suite a ((a, oe4) :: (X.pn ++ pins))) (v := .ref a) S4 hN hi hloc rfl (fun s5 S5 => ?_) (.inr hln)
          refine wpAny_mono ((hsu a oe4 cls d (X.pn ++ pins) hz4 ⟨_, hd4⟩).run [] s5 _ H' _ S5 (hyes rfl a na)) (fun f s6 hsp => ?_) (fun _ _ z => False.elim z)
          cases f with
          | ret u =>
            obtain ⟨v6, σ6, H6, S6, r6, q6⟩ := hsp
            exact end_ S6 fun s7 J7 => ⟨_, _, _, J7, r6, q6⟩
          | next =>
            obtain ⟨σ6, H6, S6, q6⟩ := hsp
            exact end_ S6 fun s7 J7 => ⟨_, _, J7, q6⟩
          | brk =>
            obtain ⟨σ6, H6, S6, q6⟩ := hsp
            exact end_ S6 fun s7 J7 => ⟨_, _, J7, q6⟩
          | cont =>
            obtain ⟨σ6, H6, S6, q6⟩ := hsp
            exact end_ S6 fun s7 J7 => ⟨_, _, J7, q6⟩
    exact go hh w
  · have hq := back f s1 hsp
    cases f with
    | next => exact wpAny_execs_nil hq
    | brk => exact hq
    | cont => exact hq
    | ret u => exact hq
end
end G93

set_option Elab.async false
set_option linter.all false
set_option maxRecDepth 100000
set_option maxHeartbeats 4000000
/-! an own error whose __init__ (its base's, two classes below ValueError) says super().__init__(..) and stores one field -/
namespace G93
section
open PySem PySem.W PySem.Calls PyProof.Rows PySem.HandSPX
/-! ### the text of __init__ -/
def eA : Arguments := { posonlyargs := [], args := [⟨"self", none, ⟨4, 17, 4, 21⟩⟩, ⟨"what", none, ⟨4, 23, 4, 27⟩⟩], vararg := none, kwonlyargs := [], kw_defaults := [], kwarg := none, defaults := [] }
def eB : List Stmt :=
  [.Expr (.Call (.Attribute (.Call (.Name "super" ⟨5, 8, 5, 13⟩) [] [] ⟨5, 8, 5, 15⟩) "__init__" ⟨5, 8, 5, 24⟩) [.Constant (.str "refused") 0 ⟨5, 25, 5, 34⟩] [] ⟨5, 8, 5, 35⟩) ⟨5, 8, 5, 35⟩,
   .Assign [.Attribute (.Name "self" ⟨6, 8, 6, 12⟩) "what" ⟨6, 8, 6, 17⟩] (.Name "what" ⟨6, 20, 6, 24⟩) ⟨6, 8, 6, 24⟩]
def eS : Scope := { kind := .function, names := [(PySem.Str.ofString "self", .local), (PySem.Str.ofString "what", .local), (PySem.Str.ofString "__class__", .free), (PySem.Str.ofString "super", .globalImplicit)], isGenerator := false, isCoroutine := false, more := [] }
/-- what the written part says of an error class at C under the base at D, whose __init__ is at fI (cc: the cell of D's name) -/
structure ErrTxt (P : Program) (K : Frag) (mg : Str → Option Value) (x : Str) (C D fI cc : Addr) : Prop where
  gC : mg x = some (.ref C)
  cls : ∃ nm q N bs bm sn sub ab col dd k0 k1 k2 k3 k5, K.lookup C = some (excClassObj nm q C N bs bm true sn sub ab col dd k0 k1 k2 k3 k5 "ValueError.__new__") ∧ refsVE bm = true
  sa : findIn K (.ref C) "__setattr__" = some (some (.builtin "object.__setattr__"))
  noN : findIn K (.ref C) "what" = some none
  iC : findIn K (.ref C) "__init__" = some (some (.ref fI))
  tC : typeIn K (.ref fI) = some (.type "function")
  kC : keepIn K (.ref C) = true
  exC : subIn K (.ref C) (.type "BaseException") = some true
  veC : subIn K (.ref C) (.type "ValueError") = some true
  tyC : typeIn K (.ref C) = some (.type "type")
  suC : ks_superIn K C D "__init__" = some (some (.builtin "ValueError.__init__"))
  any : nsIn K cStatics "thirdparty.any" = some none
  cl : ∃ (o : Value) (od : Option Addr) (sl : Array (Option Value)), K.lookup cc = some ⟨o, od, .cell (some (.ref D)), sl⟩
  cD : ∃ cd, clsIn K D = some cd
  mC : mroIn K C (.ref D) = some true
  noS : mg "super" = none
  fn : ∃ (oc : Value) (od : Option Addr) (doc pm : Value) (an : Option Addr) (cda : Addr) (ct : Value) (osl : Array (Option Value)),
    K.lookup fI = some ⟨oc, od, .func (ksFn "__init__" "Refused.__init__" eA eB eS .none .none doc pm an (.ref cda) ct cc), osl⟩ ∧ codeIn K (.ref cda) "Refused.__init__" = true ∧
      ∃ (ccl : Value) (cdd : Option Addr) (vs : Array Value) (ccs : Array (Option Value)) (file : Str) (tf : Tok), K.lookup cda = some ⟨ccl, cdd, .fields vs, ccs⟩ ∧ vs[2]? = some (.str file tf) ∧ ((P.main.file : Str) == file) = true
  top : (P.main.scope.names.lookup ("super" : Str)).isSome = false

theorem boot_sup : bootBuiltins "super" = some (.type "super") := by first | boot_by_name | rfl | kernel_rfl | decide +kernel
/-- what __init__ leaves of a fresh error at x -/
structure ErrInit (h h' : Heap) (x C dx : Addr) (v : Value) : Prop where
  keep : ∀ b o, b ≠ x → h.get? b = some o → h'.get? b = some o
  obj : ∃ t1 : Addr, h'.get? x = some { cls := .ref C, dict := some dx, data := .fields #[.ref t1, .none, .none, .none, .bool false, .none] }
  dbig : h.objs.size ≤ dx
  dne : dx ≠ x
  ns : h'.Ns1 dx (fun y => if y = "what" then some v else none)
section
variable {prog : Program} {w : World} {A : Around} {E : Value → Shared → Prop} {R : Result → Shared → Prop} {s : Shared} {K : Frag} {mg mb : Str → Option Value} {C D fI cc : Addr} {nx : Str}
/-- ValueError.__init__ bound to x, called -/
theorem call_mw {nm q : Str} {N u e t0 : Addr} {bs bm : List Value} {hdct : Bool} {sn : List Str} {sub : List Value} {ab : Bool} {col : Option Bool} {dd : Option Addr} {k0 k1 k2 k3 k5 : Option Value} {rest : List Value} {Q : Value → Shared → Prop}
    {h : Heap} {g : Array GenState} {d : Drawn} {t : Nat} {os : OsState}
    (hC : h.get? C = some (excClassObj nm q C N bs bm hdct sn sub ab col dd k0 k1 k2 k3 k5 "ValueError.__new__")) (he : h.get? e = some (excO C t0)) (hu : h.get? u = some (kxs_mw "ValueError.__init__" e)) (hrest : rest.length ≤ sizeLine)
    (hq : ∀ h' t1, (∀ b o, b ≠ e → h.get? b = some o → h'.get? b = some o) → h'.get? e = some (excO C t1) → Q .none ⟨h', g, d, t, os⟩) :
    wpAny (model prog w) A (call (.ref u) rest) Q E ⟨h, g, d, t, os⟩ := by
  refine wpAny_call (codeAny_of_tree ?_)
  show wpAny _ A.in1 (callAny (.ref u) ⟨rest, []⟩) _ _ _
  simp only [callAny]
  refine wpAny_bind (wpAny_load hu ?_)
  have e1 : (Value.type "method-wrapper" == Value.type "method" || Value.type "method-wrapper" == Value.type "builtin_function_or_method" || Value.type "method-wrapper" == Value.type "method-wrapper") = true := by decide
  simp only [kxs_mw, e1, if_true]
  refine KFB.if_so (by decide) ?_
  refine wpAny_bind (check_bound_init F.excBase_ValueError.toExcCallFacts hC he rfl ?_)
  refine wpAny_bind (wpAny_pure (wpAny_pure ⟨plainId_quiet F.excBase_ValueError.init.plain _, codeAny_builtin F.excBase_ValueError.initEntry ?_⟩))
  exact exc_init_tree (cls := .ref C) (t0 := t0) (dv := none) (c2 := .none) (c3 := .none) (b4 := .bool false) he hrest fun h' k e' _ => hq h' _ k e'

theorem err_init (T : ErrTxt prog K mg nx C D fI cc) {x t0 : Addr} {v : Value} (X : K.In s.heap) (G : s.heap.Ns mainGlobals mg) (hb : s.heap.Ns builtinsNs mb) (hbo : ∀ y : Str, y ≠ "__name__" → mb y = bootBuiltins y)
    (hlim : s.heap.NoLimit) (hx : s.heap.get? x = some (excO C t0)) (hnx : K.lookup x = none) (hroom : A.depth < recursionLimit)
    (hq : ∀ h' tk dx, ErrInit s.heap h' x C dx v → R (.ok (.ret .none)) { s with heap := h', toks := tk }) :
    codeAny (model prog w) A (.call (.ref fI) ⟨[.ref x, v], []⟩) R s := by
  obtain ⟨oc, od, doc, pm, an, cda, ct, osl, ho, hcd, ccl, cdd, cvs, ccs, file, tf, hcode, hvs, hfile⟩ := T.fn
  obtain ⟨nm, q, N, bs, bm, sn, sub, ab, col, dd, k0, k1, k2, k3, k5, hC, hbm⟩ := T.cls
  obtain ⟨co, cod, csl, hcell⟩ := T.cl
  obtain ⟨cdD, hD⟩ := T.cD
  have hcl : clsIn K C = some { name := nm, bases := bs, mro := .ref C :: bm, ns := N, qualname := q, hasDict := true, slotNames := sn, subclasses := sub, abstract := ab, collection := col, hasDel := false } := by
    unfold clsIn
    rw [hC] <;> rfl
  have nocell : ∀ y ∈ eS.names, y.2 ≠ .cell := by decide
  have hm : alongIn K "__init__" (((Value.ref C :: bm).dropWhile (· != .ref D)).drop 1) = some (some (.builtin "ValueError.__init__")) := by
    have z := T.suC
    unfold ks_superIn at z
    rw [hcl] at z
    exact z
  refine ks_codeAny_call_defAt (binds := [(("self" : Str), .ref x), (("what" : Str), v)]) hroom (X _ _ ho) rfl hlim (codeRec_of X hcd) rfl (BindsTo.of_eq (by first | rfl | with_unfolding_all rfl)) nocell (by
    intro y hy
    rcases List.mem_cons.mp hy with e | hy
    · subst e
      rfl
    · rw [List.mem_singleton.mp hy]
      rfl) (fun h₁ hn k => ?_) rfl rfl rfl
  have hxL : s.heap.objs.size ≠ x := Nat.ne_of_gt (Heap.lt_size hx)
  have X₁ : K.In h₁ := X.keeps k
  have hx₁ := k _ _ hx
  have I₁ : InstAt h₁ x (excO C t0) C none := ⟨hx₁, rfl, rfl, trivial⟩
  obtain ⟨oD, hD1, hD2⟩ : ∃ oD, h₁.get? D = some oD ∧ oD.data = .cls cdD := by
    unfold clsIn at hD
    split at hD
    · rename_i c d cd' sl hoD
      cases hD
      exact ⟨_, X₁ _ _ hoD, rfl⟩
    · cases hD
  -- super().__init__('refused')
  show _root_.PySem.wpAt _ _ (.func eB (ksEnv "Refused.__init__" eS s.heap.objs.size fI (.ref cda) cc)) (execs eB (ksEnv "Refused.__init__" eS s.heap.objs.size fI (.ref cda) cc)) _ _ _
  refine ks_wpAt_execs_cons (ks_wpAt_Expr_any (ks_wpAt_MethodCall (ks_wpAt_super_base (env := ksEnv "Refused.__init__" eS s.heap.objs.size fI (.ref cda) cc) rfl rfl (by decide) rfl (X₁ _ _ ho) rfl rfl rfl (X₁ _ _ hcode) rfl hvs hfile T.top ?_)))
  refine ks_loadName_global rfl rfl (loadGlobal_builtin (env := ksEnv "Refused.__init__" eS s.heap.objs.size fI (.ref cda) cc) (G.keeps k) T.noS (hb.keeps k) ((hbo _ (by decide +kernel)).trans boot_sup) ⟨rfl, ?_⟩)
  refine wpAny_loadName_free rfl rfl rfl ⟨_, X₁ _ _ hcell, rfl⟩ ?_
  refine wpAny_loadName_local rfl rfl hn (show _ = some (Value.ref x) from rfl) ?_
  refine ks_wpAny_isType_cls hD1 hD2 ⟨rfl, ?_⟩
  refine ks_wpAny_call_super hD1 hD2 hx₁ rfl (fun c e => nomatch e) (looks_mroIn X₁ T.mC) (fun h₂ hso k₂ => ?_)
  have X₂ : K.In h₂ := X₁.keeps k₂
  have I₂ : InstAt h₂ x (excO C t0) C none := ⟨k₂ _ _ hx₁, rfl, rfl, trivial⟩
  have lC : Looks (model prog w) h₂ (mroOf (.ref C)) (.ref C :: bm) := fun A Q E s k q => wpAny_bind ((looks_clsIn X₂ hcl) A _ E s k (wpAny_pure q))
  refine kxs_getMethod kxs_ValueError hso (looks_opaque X₂ T.any) lC rfl X₂ hm (I₂.type.andThen (looks_subIn X₂ T.veC)) (ks_ne X₂ I₂ hcl) (by decide) ?_
  have hu : (h₂.push (kxs_mw "ValueError.__init__" x)).get? h₂.objs.size = some (kxs_mw "ValueError.__init__" x) := Heap.get?_push_size _ rfl
  have k₃ : ∀ b o, h₂.get? b = some o → (h₂.push (kxs_mw "ValueError.__init__" x)).get? b = some o := fun b o e => Heap.get?_push_of_some _ e
  show wpAny _ _ (callWith ⟨5, 8, 5, 35⟩ (.ref h₂.objs.size) [] (backTo ⟨5, 8, 5, 35⟩ (starEach [.Constant (.str "refused") 0 ⟨5, 25, 5, 34⟩] (ksEnv "Refused.__init__" eS s.heap.objs.size fI (.ref cda) cc))) []) _ _ _
  refine kxs_callWith (i := "ValueError.__init__") (x := x) (by rfl) (Calls.evalArgs_plain (args_cons (Calls.Constant_str (args_nil ⟨hu, ?_⟩)) (by rfl)))
  refine call_mw (k₃ _ _ (k₂ _ _ (k _ _ (X _ _ hC)))) (k₃ _ _ (k₂ _ _ hx₁)) hu (show 1 ≤ sizeLine by rw [sizeLine_eq]; decide) fun h₄ t1 k₄ hx₄ => ?_
  -- self.what = what
  have back : ∀ b o, b ≠ x → s.heap.get? b = some o → h₄.get? b = some o := fun b o hb e => k₄ b o hb (k₃ _ _ (k₂ _ _ (k _ _ e)))
  have X₄ : K.In h₄ := fun b o e => by
    have hb : b ≠ x := fun z => by
      rw [z, hnx] at e
      cases e
    exact back b o hb (X b o e)
  have hn₄ : h₄.Ns s.heap.objs.size (fun y => [(("self" : Str), Value.ref x), (("what" : Str), v)].reverse.lookup y) := by
    obtain ⟨o, es, ep, e1, e2⟩ := hn
    exact ⟨o, es, ep, k₄ _ _ hxL (k₃ _ _ (k₂ _ _ e1)), e2⟩
  have hz : s.heap.objs.size < h₄.objs.size := hn₄.lt
  refine wpAt_of_wpAny ?_
  refine wpAny_execs_cons (plainObj_wpAny_Assign_Attribute ?_)
  refine wpAny_Name (wpAny_loadName_local rfl rfl hn₄ (show _ = some v from rfl) ?_) (by decide)
  refine wpAny_Name (wpAny_loadName_local rfl rfl hn₄ (show _ = some (Value.ref x) from rfl) ?_) (by decide)
  refine set_plain X₄ (ox := excO C t1) (od := none) ⟨hx₄, rfl, rfl, trivial⟩ T.sa ?_
  refine exc_osa X₄ hx₄ hcl (show refsVE (.ref C :: bm) = true from hbm) rfl T.noN (fun h₅ tk₅ dx k₅ dn dne hx₅ hn₅ => ?_)
  exact wpAny_execs_nil (hq h₅ tk₅ dx ⟨fun b o hb e => k₅ b o hb (back b o hb e), ⟨t1, hx₅⟩, Nat.le_of_lt (Nat.lt_of_lt_of_le hz dn), dne, hn₅⟩)
/-- a made error -/
structure ErrMade (h h' : Heap) (e C d : Addr) (v : Value) : Prop where
  keep : ∀ b o, h.get? b = some o → h'.get? b = some o
  new : h.objs.size ≤ e
  obj : ∃ oe vs, h'.get? e = some oe ∧ oe.cls = .ref C ∧ oe.dict = some d ∧ oe.data = .fields vs ∧ vs[1]? = some .none
  dbig : h.objs.size ≤ d
  dne : d ≠ e
  ns : h'.Ns1 d (fun y => if y = "what" then some v else none)
theorem err_made (T : ErrTxt prog K mg nx C D fI cc) {v : Value} (X : K.In s.heap) (G : s.heap.Ns mainGlobals mg) (hb : s.heap.Ns builtinsNs mb) (hbo : ∀ y : Str, y ≠ "__name__" → mb y = bootBuiltins y)
    (hlim : s.heap.NoLimit) (hroom : A.depth + 1 < recursionLimit)
    (hq : ∀ h' tk e d, ErrMade s.heap h' e C d v → R (.ok (.ret (.ref e))) { s with heap := h', toks := tk }) :
    codeAny (model prog w) A (.call (.ref C) ⟨[v], []⟩) R s := by
  obtain ⟨nm, q, N, bs, bm, sn, sub, ab, col, dd, k0, k1, k2, k3, k5, hC, hbm⟩ := T.cls
  obtain ⟨hp, g, dr, tk, os⟩ := s
  have k : ∀ b o, hp.get? b = some o → ((hp.push (kdv_tup [v])).push (excO C hp.objs.size)).get? b = some o := fun b o e => Heap.get?_push_of_some _ (Heap.get?_push_of_some _ e)
  have hget : ((hp.push (kdv_tup [v])).push (excO C hp.objs.size)).get? (hp.objs.size + 1) = some (excO C hp.objs.size) := by heap_get
  have hnx : K.lookup (hp.objs.size + 1) = none := by
    cases e : K.lookup (hp.objs.size + 1) with
    | none => rfl
    | some o => exact absurd (Nat.lt_of_succ_lt (Heap.lt_size (X _ _ e))) (Nat.lt_irrefl _)
  have one : [v].length ≤ sizeLine := show 1 ≤ sizeLine by rw [sizeLine_eq]; decide
  refine call_own F.excBase_ValueError (fun Y => refsVE_contains Y bm hbm) (X _ _ hC) (looks_findIn X T.iC) (fun self => bind_fn X self T.tC) one ?_
  refine err_init (s := ⟨(hp.push (kdv_tup [v])).push (excO C hp.objs.size), g, dr, tk, os⟩) T (X.keeps k) (G.keeps k) (hb.keeps k) hbo (hlim.keeps k) hget hnx hroom fun h' tk' dx M => ?_
  have old : ∀ b o, hp.get? b = some o → h'.get? b = some o := fun b o e => M.keep b o (Nat.ne_of_lt (Nat.lt_succ_of_lt (Heap.lt_size e))) (k b o e)
  have z : hp.objs.size + 1 + 1 ≤ dx := by
    have z0 := M.dbig
    first
      | (simpa only [Heap.size_push] using z0)
      | exact z0
  obtain ⟨t1, hx⟩ := M.obj
  exact ⟨rfl, hq h' tk' (hp.objs.size + 1) dx ⟨old, Nat.le_succ _, ⟨_, _, hx, rfl, rfl, rfl, rfl⟩, Nat.le_trans (Nat.le_trans (Nat.le_succ _) (Nat.le_succ _)) z, M.dne, M.ns⟩⟩
end
end

section
open PySem PySem.Spec PyProof.Rows L2
def whatF (v : V) : List (Str × V) := [(("what" : Str), v)]
theorem whatF_get (v : V) : (whatF v).lookup ("what" : Str) = some v := by simp [whatF, List.lookup]
theorem relO_what {v : V} {u : Value} (r : RelV v u) (f : Str) : RelO ((whatF v).lookup f) (if f = "what" then some u else none) := by
  by_cases h : f = "what"
  · subst h
    rw [if_pos rfl, whatF_get]
    exact r
  · have hb : (f == ("what" : Str)) = false := by simpa using h
    have e : (whatF v).lookup f = none := by simp [whatF, List.lookup, hb]
    rw [if_neg h, e]
    trivial
variable {X : Cx} {C D fI cc : Addr} {x : Str}
/-- BadSize(e): a new error of the class at C, its own dict d -/
def tMkErr (C : Addr) (ta : TA) : L2.St → Hp → XK → Prop := fun σ H Q => ta σ H fun vs H1 => ∃ v, vs = [v] ∧ ∀ d, H1 d = none → Q (.ref C) (some d) (upd H1 d (.xd (whatF v)))
theorem pmk_err {a : Expr} {ta : TA} {p pos : Pos} {k : Nat} (T : ErrTxt X.prog X.K X.mg x C D fI cc) (hr : Room k X.A) (hg : Gl X x) (ha : PA X [a] ta) (hdb : (x == ("__debug__" : Str)) = false := by decide)
    (he : starEach (a :: []) X.env = (false, eval a X.env) :: starEach [] X.env := by rfl) (hpl : (backTo pos (starEach [] X.env)).any (·.1) = false := by rfl) :
    PMk X (.Call (.Name x p) [a] [] pos) (tMkErr C ta) := by
  intro pins s σ H Q I h
  refine wpAny_Call_Name_kw (ld_glob I hg T.gC ?_ hdb)
  refine PySem.W.callWith_K (h₀ := X.base) I.ok.mod.kin T.kC (thn (ha.run pos pins s σ H _ I h) fun us s1 hh => ?_) he hpl
  obtain ⟨vs, H1, I1, r1, v, ev, q1⟩ := hh
  subst ev
  obtain ⟨v', rfl, rv⟩ := r1.one
  refine ⟨I1.kIn, ?_⟩
  show wpAny _ _ (call (.ref C) [v']) _ _ _
  have hlim := I1.nolimit
  have G1 := I1.mod.glob.keeps I1.bk
  obtain ⟨mb, b1, b2⟩ := I1.mod.blt
  have B1 := b1.keeps I1.bk
  obtain ⟨hp, g, dr, tk, os⟩ := s1
  refine wpAny_call (err_made T I1.kIn G1 B1 b2 hlim (by have := hr.dp; omega) fun h' tk' e d M => ?_)
  show MkP X pins σ Q (.ref e) ⟨h', g, dr, tk', os⟩
  obtain ⟨oe, fv, hoe, hc, hd, hdat, h1⟩ := M.obj
  have hns := M.ns
  obtain ⟨G', g1, g2⟩ := restrict h' fun b => decide (b ≠ e)
  have gk : ∀ b, b ≠ e → G'.get? b = h'.get? b := fun b hb => g1 b (decide_eq_true hb)
  have ge : G'.get? e = none := g2 e (by simp)
  have old : ∀ b o, hp.get? b = some o → G'.get? b = some o := fun b o q => (gk b (Nat.ne_of_lt (Nat.lt_of_lt_of_le (Heap.lt_size q) M.new))).trans (M.keep b o q)
  have ob : ObjOk X.prog X.w (upd H1 d (.xd (whatF v))) G' d (.xd (whatF v)) := ⟨_, hns.at (fun o q => (gk d M.dne).trans q), fun f => relO_what rv f⟩
  have J : Inv X pins σ (upd H1 d (.xd (whatF v))) ⟨G', g, dr, tk', os⟩ := I1.laid (t' := tk') old M.dbig ob
  have back : ∀ b o, G'.get? b = some o → h'.get? b = some o := fun b o q => by
    by_cases hb : b = e
    · rw [hb, ge] at q
      cases q
    · exact (gk b hb).symm.trans q
  have hne : (upd H1 d (.xd (whatF v))) e = none := by
    rw [upd_ne (Ne.symm M.dne)]
    exact I1.hok.fresh M.new
  exact ⟨e, oe, fv, ⟨G', g, dr, tk', os⟩, _, .ref C, some d, rfl, J, back, ge, hoe, ⟨hc, hd⟩, hdat, h1, hne, rfl, I1.bare, raises_own T.exC T.tyC, q1 d (I1.hok.fresh M.dbig)⟩
end
end G93

set_option Elab.async false
set_option linter.all false
set_option maxRecDepth 100000
set_option maxHeartbeats 4000000
/-! calls by name, sums of tuples, comprehensions that reckon, frames of the heap, nested tuples -/
namespace G93
open PySem PySem.Spec PyProof.Rows L2

/-! ### calls -/
structure Cal (P : Program) (w : World) (K : PySem.W.Frag) (mg : Str → Option Value) (base : Heap) (CX : CXT) (k : Nat) (x : Str) (ps : List Str) (sp : Sp) : Prop where
  ex : ∃ f fd, FnOk P w K mg base CX k f fd ps sp ∧ Binds K fd ps [] ∧ PySem.W.keepIn K (.ref f) = true ∧ mg x = some (.ref f)
theorem pe_callC {X : Cx} {CX : CXT} {k : Nat} {ps : List Str} {sp : Sp} {E : XK} {x : Str} {e : Expr} {es : List Expr} {t : TA} {p pos : Pos} (C : Cal X.prog X.w X.K X.mg X.base CX k x ps sp) (hr : Room k X.A) (hg : Gl X x) (hx : Passes CX X E)
    (ha : PA X (e :: es) t) (hdb : (x == ("__debug__" : Str)) = false := by decide) (he : starEach (e :: es) X.env = (false, eval e X.env) :: starEach es X.env := by rfl) (hpl : (backTo pos (starEach es X.env)).any (·.1) = false := by rfl) :
    PE X (.Call (.Name x p) (e :: es) [] pos) (tCall sp [] E t) := by
  obtain ⟨f, fd, F, b, kp, m⟩ := C.ex
  exact pe_call F hr hg m kp b .nil hx ha hdb he hpl
structure CalK (P : Program) (w : World) (K : PySem.W.Frag) (mg : Str → Option Value) (base : Heap) (CX : CXT) (k : Nat) (x : Str) (ps ks : List Str) (gV : List V → List V → List V) (sp : Sp) : Prop where
  ex : ∃ f fd g, FnOk P w K mg base CX k f fd ps sp ∧ KBinds K fd ps ks g gV ∧ PySem.W.keepIn K (.ref f) = true ∧ mg x = some (.ref f)
theorem pe_callK0C {X : Cx} {CX : CXT} {k : Nat} {ps ks : List Str} {gV : List V → List V → List V} {sp : Sp} {E : XK} {x : Str} {kws : List Keyword} {tk : TA} {p pos : Pos} (C : CalK X.prog X.w X.K X.mg X.base CX k x ps ks gV sp) (hr : Room k X.A) (hg : Gl X x) (hx : Passes CX X E)
    (hkw : PK X kws tk) (hall : (backToKw pos (keywordEach kws X.env)).all (·.1.isSome) = true := by rfl) (hks : (backToKw pos (keywordEach kws X.env)).filterMap (·.1) = ks := by rfl)
    (hdb : (x == ("__debug__" : Str)) = false := by decide)
    (hpl : ((backTo pos (starEach [] X.env)).any (·.1) || (backToKw pos (keywordEach kws X.env)).any (·.1.isNone)) = false := by rfl) :
    PE X (.Call (.Name x p) [] kws pos) (fun σ H Q => tk σ H fun zs H2 => sp (gV [] zs) H2 Q E) := by
  obtain ⟨f, fd, g, F, b, kp, m⟩ := C.ex
  exact pe_callK0 F hr hg m kp b hx hkw hall hks hdb hpl
theorem m1_of {X : Cx} {o e : Expr} {m : Str} {apos cpos : Pos} (h1 : attributeBase o m X.env (eval o X.env) = eval o X.env) (h2 : (apos.endLine == cpos.line) = true)
    (h3 : ((backTo cpos (starEach [e] X.env)).all (fun x => !x.1) && (backToKw cpos (keywordEach [] X.env)).all (fun x => x.1.isSome)
    && decide (([e] : List Expr).length + ([] : List Keyword).length + (if ([] : List Keyword).isEmpty then 0 else 1) < 30)) = true := by rfl)
    (h4 : backTo cpos (starEach [e] X.env) = [(false, eval e X.env)] := by rfl) : M1 X o m apos e cpos := ⟨h1, h3, h2, h4⟩
/-- the token of a module's number -/
def tkOf : Option Value → Nat
  | some (.int _ t) => t
  | _ => 0
theorem tkOf_eq {v : Option Value} {n : Int} {t : Nat} (h : v = some (.int n t)) : v = some (.int n (tkOf v)) := by subst h; rfl

/-! ### sum of a tuple of ints -/
def rSumT (K : PySem.W.Frag) : List V → Hp → VK → Prop := fun vs H Q => ∃ (a : Addr) (ns : List Int), vs = [V.ref a] ∧ SqT K H a (ns.map V.int) ∧ Q (.int ns.sum) H
theorem cr_sumS {X : Cx} (hc : X.calm = true) : CallR X (.builtin "sum") (rSumT X.K) := by
  intro pins s σ H vs us Q I r h
  obtain ⟨a, ns, rfl, hs, q⟩ := h
  obtain ⟨its, rv, hl, _⟩ := I.tuple hs
  rw [Vals.ref1 r]
  have hi := rv.ints
  obtain ⟨xs, e⟩ := hi.allInts.items
  have hn : numsOf (intItems xs).toList = ns := by rw [← e]; exact hi.numsOf
  rw [nums_intItems] at hn
  have hl2 : s.heap.IsTuple a its.toArray := hl
  rw [e] at hl2
  refine PySem.W.ktm_sumG (I.ok.hd hc) hl2 fun h' tk t' hk => ?_
  rw [preSum_eq, List.take_of_length_le (by simp), hn]
  exact ⟨.int _, H, I.kept hk, ⟨_, rfl⟩, q⟩

/-! ### frames -/
theorem _root_.L2.Same.of_new {H : Hp} {p : Addr} (h : H p = none) (o : HO) : Same H (upd H p o) := fun b u q => by rw [upd_ne (ne_of_none q h)]; exact q
theorem _root_.L2.Same.set {H H' : Hp} {p : Addr} (e : Same H H') (h : H p = none) (o : HO) : Same H (upd H' p o) := fun b u q => by rw [upd_ne (ne_of_none q h)]; exact e b u q
theorem _root_.L2.Same.put {H H' : Hp} {p : Addr} (e : Same H H') (h : H' p = none) (o : HO) : Same H (upd H' p o) := e.trans (L2.Same.of_new h o)
theorem _root_.L2.Same.tup {K : PySem.W.Frag} {H H' : Hp} {a : Addr} {xs : List V} (e : Same H H') (h : SqT K H a xs) : SqT K H' a xs := by
  rcases h with (h | ⟨o, h⟩) | h
  · exact .inl (.inl (e _ _ h))
  · exact .inl (.inr ⟨o, e _ _ h⟩)
  · exact .inr h
theorem _root_.L2.Same.up {H H' : Hp} {p : Addr} {o u : HO} (e : Same H H') (h : H p = some o) (hp : H' q = none) : upd H' q u p = some o := by rw [upd_ne (ne_of_none (e _ _ h) hp)]; exact e _ _ h
/-- all but the thing at s -/
def Kp (s : Addr) (H H' : Hp) : Prop := ∀ b o, b ≠ s → H b = some o → H' b = some o
theorem Kp.refl (s : Addr) (H : Hp) : Kp s H H := fun _ _ _ h => h
theorem Kp.trans {s : Addr} {H H1 H2 : Hp} (a : Kp s H H1) (b : Kp s H1 H2) : Kp s H H2 := fun c o n h => b c o n (a c o n h)
theorem _root_.L2.Same.kp {s : Addr} {H H' : Hp} (e : Same H H') : Kp s H H' := fun b o _ h => e b o h
theorem Kp.self {s : Addr} {H : Hp} (o : HO) : Kp s H (upd H s o) := fun b u n h => by rw [upd_ne n]; exact h
theorem Kp.set {s : Addr} {H H' : Hp} {p : Addr} (e : Kp s H H') (h : H p = none) (o : HO) : Kp s H (upd H' p o) := fun b u n q => by rw [upd_ne (ne_of_none q h)]; exact e b u n q
theorem Kp.put {s : Addr} {H H' : Hp} {p : Addr} (e : Kp s H H') (h : H' p = none) (o : HO) : Kp s H (upd H' p o) := e.trans (L2.Same.of_new h o).kp
/-- tuples stay -/
structure TS (H H' : Hp) : Prop where
  t : ∀ b xs, H b = some (.tup xs) → H' b = some (.tup xs)
  f : ∀ b o u, H b = some (.frz o u) → H' b = some (.frz o u)
theorem TS.refl (H : Hp) : TS H H := ⟨fun _ _ h => h, fun _ _ _ h => h⟩
theorem TS.trans {H H1 H2 : Hp} (a : TS H H1) (b : TS H1 H2) : TS H H2 := ⟨fun c o h => b.t c o (a.t c o h), fun c o u h => b.f c o u (a.f c o u h)⟩
theorem _root_.L2.Same.ts {H H' : Hp} (e : Same H H') : TS H H' := ⟨fun b xs h => e _ _ h, fun b o u h => e _ _ h⟩
theorem Kp.ts {s : Addr} {H H' : Hp} {ys : List V} (e : Kp s H H') (h : H s = some (.lst ys)) : TS H H' := ⟨fun b xs q => e _ _ (ne_of q h (by intro z; cases z)) q, fun b o u q => e _ _ (ne_of q h (by intro z; cases z)) q⟩

/-! ### nested tuples of ints and texts -/
inductive Tp (H : Hp) : V → PyData → Prop where
  | int (i : Int) : Tp H (.int i) (.int i)
  | str (x : Str) : Tp H (.str x) (.str x)
  | tup {a : Addr} {xs : List V} {ds : List PyData} (h : H a = some (.tup xs)) (hl : xs.length = ds.length) (ha : ∀ (i : Nat) x d, xs[i]? = some x → ds[i]? = some d → Tp H x d) : Tp H (.ref a) (.tuple ds)
structure Tps (H : Hp) (xs : List V) (ds : List PyData) : Prop where
  len : xs.length = ds.length
  all : ∀ (i : Nat) x d, xs[i]? = some x → ds[i]? = some d → Tp H x d
theorem Tps.mk' {H : Hp} {a : Addr} {xs : List V} {ds : List PyData} (h : H a = some (.tup xs)) (t : Tps H xs ds) : Tp H (.ref a) (.tuple ds) := .tup h t.len t.all
theorem Tp.tuple {H : Hp} {v : V} {ds : List PyData} (t : Tp H v (.tuple ds)) : ∃ a xs, v = .ref a ∧ H a = some (.tup xs) ∧ Tps H xs ds := by
  cases t with
  | tup h hl ha => exact ⟨_, _, rfl, h, hl, ha⟩
theorem Tp.mono {H H' : Hp} (e : TS H H') {v : V} {d : PyData} (t : Tp H v d) : Tp H' v d := by
  induction t with
  | int i => exact .int i
  | str x => exact .str x
  | tup h hl _ ih => exact .tup (e.t _ _ h) hl ih
theorem Tps.mono {H H' : Hp} (e : TS H H') {v : List V} {d : List PyData} (t : Tps H v d) : Tps H' v d := ⟨t.len, fun i x d h1 h2 => (t.all i x d h1 h2).mono e⟩
theorem Tps.nil {H : Hp} : Tps H [] [] := ⟨rfl, fun i x d h => by simp at h⟩
theorem Tps.cons {H : Hp} {x : V} {d : PyData} {xs : List V} {ds : List PyData} (t : Tp H x d) (ts : Tps H xs ds) : Tps H (x :: xs) (d :: ds) := by
  refine ⟨by simp [ts.len], fun i y e h1 h2 => ?_⟩
  cases i with
  | zero =>
    rw [List.getElem?_cons_zero] at h1 h2
    cases h1
    cases h2
    exact t
  | succ j =>
    rw [List.getElem?_cons_succ] at h1 h2
    exact ts.all j _ _ h1 h2
theorem Tps.get {H : Hp} {xs : List V} {ds : List PyData} (t : Tps H xs ds) {i : Nat} {x : V} (h : xs[i]? = some x) : ∃ d, ds[i]? = some d ∧ Tp H x d := by
  have hi : i < ds.length := by rw [← t.len]; exact (List.getElem?_eq_some_iff.mp h).1
  exact ⟨ds[i], List.getElem?_eq_getElem hi, t.all i x _ h (List.getElem?_eq_getElem hi)⟩
theorem Tps.get' {H : Hp} {xs : List V} {ds : List PyData} (t : Tps H xs ds) {i : Nat} {d : PyData} (h : ds[i]? = some d) : ∃ x, xs[i]? = some x ∧ Tp H x d := by
  have hi : i < xs.length := by rw [t.len]; exact (List.getElem?_eq_some_iff.mp h).1
  exact ⟨xs[i], List.getElem?_eq_getElem hi, t.all i _ d (List.getElem?_eq_getElem hi) h⟩
theorem Tps.uncons {H : Hp} {x : V} {d : PyData} {xs : List V} {ds : List PyData} (t : Tps H (x :: xs) (d :: ds)) : Tp H x d ∧ Tps H xs ds :=
  ⟨t.all 0 x d rfl rfl, by have := t.len; simp at this; exact this, fun i y e h1 h2 => t.all (i + 1) y e (by simpa using h1) (by simpa using h2)⟩
theorem Tps.append {H : Hp} : ∀ {xs : List V} {ds : List PyData} {ys : List V} {es : List PyData}, Tps H xs ds → Tps H ys es → Tps H (xs ++ ys) (ds ++ es)
  | [], [], _, _, _, b => b
  | [], _ :: _, _, _, a, _ => by have := a.len; simp at this
  | _ :: _, [], _, _, a, _ => by have := a.len; simp at this
  | x :: xs, d :: ds, _, _, a, b => .cons a.uncons.1 (Tps.append a.uncons.2 b)
theorem Tps.one {H : Hp} {x : V} {d : PyData} (t : Tp H x d) : Tps H [x] [d] := .cons t .nil
theorem Tps.take {H : Hp} {xs : List V} {ds : List PyData} (t : Tps H xs ds) (n : Nat) : Tps H (xs.take n) (ds.take n) := by
  refine ⟨by simp [t.len], fun i x d h1 h2 => ?_⟩
  rw [List.getElem?_take] at h1 h2
  split at h1
  · rw [if_pos (by assumption)] at h2
    exact t.all i x d h1 h2
  · cases h1
theorem Tps.drop {H : Hp} {xs : List V} {ds : List PyData} (t : Tps H xs ds) (n : Nat) : Tps H (xs.drop n) (ds.drop n) := by
  refine ⟨by simp [t.len], fun i x d h1 h2 => ?_⟩
  rw [List.getElem?_drop] at h1 h2
  exact t.all _ x d h1 h2
theorem Tps.reverse {H : Hp} {xs : List V} {ds : List PyData} (t : Tps H xs ds) : Tps H xs.reverse ds.reverse := by
  refine ⟨by simp [t.len], fun i x d h1 h2 => ?_⟩
  have hi : i < xs.length := by
    have := (List.getElem?_eq_some_iff.mp h1).1
    simpa using this
  rw [List.getElem?_reverse hi] at h1
  rw [List.getElem?_reverse (by rw [← t.len]; exact hi), ← t.len] at h2
  exact t.all _ x d h1 h2
mutual
theorem Tp.dp {K : PySem.W.Frag} {H : Hp} : ∀ (d : PyData) (v : V), Tp H v d → Dp K H v d
  | .none, _, t => by cases t
  | .bool _, _, t => by cases t
  | .list _, _, t => by cases t
  | .dict _, _, t => by cases t
  | .int i, _, t => by cases t; exact .int i
  | .str x, _, t => by cases t; exact .str x
  | .tuple ds, v, t => by
    obtain ⟨a, xs, rfl, h, ts⟩ := t.tuple
    exact .tup (.of h) (Tps.dps ds xs ts)
theorem Tps.dps {K : PySem.W.Frag} {H : Hp} : ∀ (ds : List PyData) (vs : List V), Tps H vs ds → DpAll K H vs ds
  | [], [], _ => .nil
  | [], _ :: _, t => by have := t.len; simp at this
  | _ :: _, [], t => by have := t.len; simp at this
  | d :: ds, x :: xs, t => .cons (Tp.dp d x t.uncons.1) (Tps.dps ds xs t.uncons.2)
end
/-- ints -/
theorem Tps.ints {H : Hp} : ∀ ns : List Int, Tps H (ns.map V.int) (ns.map PyData.int)
  | [] => .nil
  | n :: ns => .cons (.int n) (Tps.ints ns)
theorem Tp.dI {H : Hp} {a : Addr} {ns : List Int} (h : H a = some (.tup (ns.map V.int))) : Tp H (.ref a) (dI ns) := Tps.mk' h (Tps.ints ns)
end G93

set_option Elab.async false
set_option linter.all false
set_option maxRecDepth 100000
set_option maxHeartbeats 4000000
/-! comprehensions that reckon: what is tracked stays, the list is a filterMap -/
namespace G93
open PySem PySem.Spec PyProof.Rows L2
theorem fm_take {α β : Type} {f : α → Option β} {xs : List α} {i : Nat} {x : α} (h : xs[i]? = some x) : (xs.take (i + 1)).filterMap f = (xs.take i).filterMap f ++ (f x).toList := by
  rw [List.take_add_one, h, List.filterMap_append]
  cases e : f x <;> simp [e]
theorem fm_len {α β : Type} {f : α → Option β} {xs : List α} {i : Nat} (h : i ≤ xs.length) : ((xs.take i).filterMap f).length ≤ i :=
  Nat.le_trans (List.length_filterMap_le _ _) (by rw [List.length_take]; omega)
section
variable {K : PySem.W.Frag} {a : Addr} {g : TG} {tt : TT} {te : TE} {vs : List Nat} {σ : L2.St} {H1 : Hp} {D : Addr} {Qd : Hp → Prop}
theorem lcm_list {xs : List V} (f : V → Option V) (hn : H1 D = none) (hS : SqL K H1 a xs) (hz : xs.length ≤ sizeLine)
    (hs : ∀ (i : Nat) x H, xs[i]? = some x → Same H1 H → ∀ (Y : V → Hp → Prop) (N : Hp → Prop), (∀ y H', Same H H' → f x = some y → Y y H') → (∀ H', Same H H' → f x = none → N H') → g x (wipe σ vs) H fun σ2 H2 => wipe σ2 vs = wipe σ vs ∧ tt σ2 H2 fun b H3 => if b = true then te σ2 H3 Y else N H3)
    (hd : ∀ H', Same H1 H' → H' D = some (.lst (xs.filterMap f)) → Qd H') :
    ∃ W : Nat → Nat → Hp → Prop, (∃ m, W 0 m (upd H1 D (.lst []))) ∧ ∀ i m H, W i m H →
      ((Itl K a).stop i H ∧ Qd H) ∨ ((Itl K a).go i H ∧ ∃ Nx : Hp → Prop, (∀ H', Nx H' → ∃ m', m' < m ∧ W (i + 1) m' H') ∧ ∀ x H', (Itl K a).yld i H x H' → g x (wipe σ vs) H' fun σ2 H2 => wipe σ2 vs = wipe σ vs ∧ tt σ2 H2 fun b H3 =>
        if b = true then te σ2 H3 fun y H4 => ∃ acc, H4 D = some (.lst acc) ∧ acc.length < sizeLine ∧ Nx (upd H4 D (.lst (acc ++ [y]))) else Nx H3) := by
  refine lc_list (xs := xs) (fun i H => Same H1 H ∧ H D = some (.lst ((xs.take i).filterMap f))) ⟨L2.Same.of_new hn _, by rw [upd_same]; rfl⟩ (fun i H _ h => h.1.seq hS) (fun i x H hx hP => ?_) (fun H hP => hd H hP.1 (by rw [List.take_length] at hP; exact hP.2))
  have hi : i < xs.length := (List.getElem?_eq_some_iff.mp hx).1
  refine hs i x H hx hP.1 _ _ (fun y H' e ey => ⟨_, e _ _ hP.2, Nat.lt_of_le_of_lt (fm_len (Nat.le_of_lt hi)) (Nat.lt_of_lt_of_le hi hz), (hP.1.trans e).set hn _, ?_⟩) (fun H' e en => ⟨hP.1.trans e, ?_⟩)
  · rw [upd_same, fm_take hx, ey]; rfl
  · rw [e _ _ hP.2, fm_take hx, en]; simp
theorem lcm_tup {xs : List V} (f : V → Option V) (hn : H1 D = none) (hS : SqT K H1 a xs) (hz : xs.length ≤ sizeLine)
    (hs : ∀ (i : Nat) x H, xs[i]? = some x → Same H1 H → ∀ (Y : V → Hp → Prop) (N : Hp → Prop), (∀ y H', Same H H' → f x = some y → Y y H') → (∀ H', Same H H' → f x = none → N H') → g x (wipe σ vs) H fun σ2 H2 => wipe σ2 vs = wipe σ vs ∧ tt σ2 H2 fun b H3 => if b = true then te σ2 H3 Y else N H3)
    (hd : ∀ H', Same H1 H' → H' D = some (.lst (xs.filterMap f)) → Qd H') :
    ∃ W : Nat → Nat → Hp → Prop, (∃ m, W 0 m (upd H1 D (.lst []))) ∧ ∀ i m H, W i m H →
      ((Itt K a).stop i H ∧ Qd H) ∨ ((Itt K a).go i H ∧ ∃ Nx : Hp → Prop, (∀ H', Nx H' → ∃ m', m' < m ∧ W (i + 1) m' H') ∧ ∀ x H', (Itt K a).yld i H x H' → g x (wipe σ vs) H' fun σ2 H2 => wipe σ2 vs = wipe σ vs ∧ tt σ2 H2 fun b H3 =>
        if b = true then te σ2 H3 fun y H4 => ∃ acc, H4 D = some (.lst acc) ∧ acc.length < sizeLine ∧ Nx (upd H4 D (.lst (acc ++ [y]))) else Nx H3) := by
  refine lc_tup (xs := xs) (fun i H => Same H1 H ∧ H D = some (.lst ((xs.take i).filterMap f))) ⟨L2.Same.of_new hn _, by rw [upd_same]; rfl⟩ (fun i H _ h => h.1.tup hS) (fun i x H hx hP => ?_) (fun H hP => hd H hP.1 (by rw [List.take_length] at hP; exact hP.2))
  have hi : i < xs.length := (List.getElem?_eq_some_iff.mp hx).1
  refine hs i x H hx hP.1 _ _ (fun y H' e ey => ⟨_, e _ _ hP.2, Nat.lt_of_le_of_lt (fm_len (Nat.le_of_lt hi)) (Nat.lt_of_lt_of_le hi hz), (hP.1.trans e).set hn _, ?_⟩) (fun H' e en => ⟨hP.1.trans e, ?_⟩)
  · rw [upd_same, fm_take hx, ey]; rfl
  · rw [e _ _ hP.2, fm_take hx, en]; simp
theorem lcm_range {lo : Int} {n : Nat} (f : Nat → Option V) (hn : H1 D = none) (hz : n ≤ sizeLine)
    (hs : ∀ (i : Nat) H, i < n → Same H1 H → ∀ (Y : V → Hp → Prop) (N : Hp → Prop), (∀ y H', Same H H' → f i = some y → Y y H') → (∀ H', Same H H' → f i = none → N H') → g (.int (lo + i)) (wipe σ vs) H fun σ2 H2 => wipe σ2 vs = wipe σ vs ∧ tt σ2 H2 fun b H3 => if b = true then te σ2 H3 Y else N H3)
    (hd : ∀ H', Same H1 H' → H' D = some (.lst ((List.range n).filterMap f)) → Qd H') :
    ∃ W : Nat → Nat → Hp → Prop, (∃ m, W 0 m (upd H1 D (.lst []))) ∧ ∀ i m H, W i m H →
      ((Itr lo n).stop i H ∧ Qd H) ∨ ((Itr lo n).go i H ∧ ∃ Nx : Hp → Prop, (∀ H', Nx H' → ∃ m', m' < m ∧ W (i + 1) m' H') ∧ ∀ x H', (Itr lo n).yld i H x H' → g x (wipe σ vs) H' fun σ2 H2 => wipe σ2 vs = wipe σ vs ∧ tt σ2 H2 fun b H3 =>
        if b = true then te σ2 H3 fun y H4 => ∃ acc, H4 D = some (.lst acc) ∧ acc.length < sizeLine ∧ Nx (upd H4 D (.lst (acc ++ [y]))) else Nx H3) := by
  have hl : (List.range n).length = n := List.length_range
  refine lc_range (n := n) (fun i H => Same H1 H ∧ H D = some (.lst (((List.range n).take i).filterMap f))) ⟨L2.Same.of_new hn _, by rw [upd_same]; simp⟩ (fun i H hi hP => ?_) (fun H hP => hd H hP.1 ?_)
  · have hx : (List.range n)[i]? = some i := by simp [hi]
    refine hs i H hi hP.1 _ _ (fun y H' e ey => ⟨_, e _ _ hP.2, Nat.lt_of_le_of_lt (fm_len (by omega)) (Nat.lt_of_lt_of_le hi hz), (hP.1.trans e).set hn _, ?_⟩) (fun H' e en => ⟨hP.1.trans e, ?_⟩)
    · rw [upd_same, fm_take hx, ey]; rfl
    · rw [e _ _ hP.2, fm_take hx, en]; simp
  · rw [hP.2, List.take_of_length_le (by omega)]
end
end G93

set_option Elab.async false
set_option linter.all false
set_option maxRecDepth 100000
set_option maxHeartbeats 4000000
/-! tuples whose own object is known (no dict of their own): made by tuple(xs) and t + u; a method of such a tuple -/
namespace G93
open PySem PySem.Spec PyProof.Rows L2
/-- a tuple with no dict -/
def TupF (H : Hp) (a : Addr) (xs : List V) : Prop := ∃ o : Obj, H a = some (.frz o (.tup xs)) ∧ o.cls = .type "tuple" ∧ o.dict = none
theorem TupF.sqT {K : PySem.W.Frag} {H : Hp} {a : Addr} {xs : List V} (h : TupF H a xs) : SqT K H a xs := let ⟨o, h, _⟩ := h; .inl (.inr ⟨o, h⟩)
def rTupF (K : PySem.W.Frag) : List V → Hp → VK → Prop := fun xs H Q => ∃ p ys, xs = [.ref p] ∧ SqL K H p ys ∧ ∀ l H', H l = none → Same H H' → TupF H' l ys → Q (.ref l) H'
section
variable {X : Cx}
theorem call_tuple_ofF : CallR X (.type "tuple") (rTupF X.K) := by
  intro pins s σ H xs us Q I r h
  obtain ⟨p, ys, rfl, hq, q⟩ := h
  obtain ⟨u, rfl, rx⟩ := vals1 r
  cases rx
  obtain ⟨its, r', pl, hz⟩ := I.list hq
  have hlen := r'.length
  refine call_tuple_list pl.isList (fun h' kp => ?_) (by simp only [List.size_toArray] <;> omega)
  have I1 : Inv X pins σ H { s with heap := h' } := I.kept (t' := s.toks) kp
  have I2 : Inv X pins σ (upd H h'.objs.size (.frz { cls := .type "tuple", data := .seq its.toArray } (.tup ys))) { s with heap := h'.push { cls := .type "tuple", data := .seq its.toArray } } :=
    I1.laid (t' := s.toks) (fun b o e => Heap.get?_push_of_some _ e) (Nat.le_refl _) (show ObjOk X.prog X.w _ _ _ (.frz _ (.tup ys)) from ⟨Heap.get?_push_size _ rfl, hz, its, r', IsTup.new _ _⟩)
  have hn := I1.hok.fresh (Nat.le_refl h'.objs.size)
  exact ⟨.ref h'.objs.size, _, I2, rfl, q _ _ hn (L2.Same.of_new hn _) ⟨_, upd_same, rfl, rfl⟩⟩
def rCatF (K : PySem.W.Frag) : R2 := fun x y H Q => ∃ a b xs ys, x = .ref a ∧ y = .ref b ∧ SqT K H a xs ∧ SqT K H b ys ∧ xs ≠ [] ∧ ys ≠ [] ∧ xs.length + ys.length ≤ sizeLine ∧
  ∀ l H', H l = none → Same H H' → TupF H' l (xs ++ ys) → Q (.ref l) H'
theorem op_catF : OpR X (binaryOp .Add) (rCatF X.K) := by
  intro pins s σ H x y v u Q I rx ry h
  obtain ⟨a, b, xs, ys, rfl, rfl, ha, hb, hx, hy, hz, q⟩ := h
  cases rx
  cases ry
  obtain ⟨its, r1, p1, _⟩ := I.tuple ha
  obtain ⟨its2, r2, p2, _⟩ := I.tuple hb
  refine HT.cat_tup p1 p2 (fun z => hx (r1.nil_iff.mp z)) (fun z => absurd (r2.nil_iff.mp z) hy) (fun z => ?_) (by rw [← r1.length, ← r2.length]; exact hz)
  have hn := I.hok.fresh (Nat.le_refl s.heap.objs.size)
  refine ⟨.ref s.heap.objs.size, _, I.laid (t' := s.toks) (o := .frz { cls := .type "tuple", data := .seq (its ++ its2).toArray } (.tup (xs ++ ys))) (fun b ob q => Heap.get?_push_of_some _ q) (Nat.le_refl _) ?_, rfl, q _ _ hn (L2.Same.of_new hn _) ⟨_, upd_same, rfl, rfl⟩⟩
  exact ⟨Heap.get?_push_size _ rfl, by rw [List.length_append]; exact hz, _, r1.append r2, IsTup.new _ _⟩
def tBMT (r : V → List V → Hp → VK → Prop) (to : TE) (t : TA) : TE := fun σ H Q => to σ H fun x H1 => (∃ p xs, x = .ref p ∧ TupF H1 p xs) ∧ t σ H1 fun xs H2 => r x xs H2 Q
theorem pe_bmT {o e : Expr} {es : List Expr} {to : TE} {t : TA} {name : Str} {apos cpos : Pos} {id : String} {r : V → List V → Hp → VK → Prop} (pa : PlainAttrs "tuple") (slot : Slot "tuple" name id) (hty : typeOf (.builtin id) = pure (.type "method_descriptor")) (hm : MtR X id r) (ho : PE X o to) (ha : PA X (e :: es) t)
    (hbase : attributeBase o name X.env (eval o X.env) = eval o X.env := by rfl)
    (hfew : ((backTo cpos (starEach (e :: es) X.env)).all (fun x => !x.1) && (backToKw cpos (keywordEach [] X.env)).all (fun x => x.1.isSome)
      && decide ((e :: es).length + ([] : List Keyword).length + (if ([] : List Keyword).isEmpty then 0 else 1) < 30)) = true := by rfl)
    (hline : (apos.endLine == cpos.line) = true := by rfl) (hs : starEach (e :: es) X.env = (false, eval e X.env) :: starEach es X.env := by rfl) (hplain : (backTo cpos (starEach es X.env)).any (·.1) = false := by rfl) :
    PE X (.Call (.Attribute o name apos) (e :: es) [] cpos) (tBMT r to t) := by
  refine ⟨fun pins s σ H Q I h => ?_⟩
  refine wpAny_Call_method_late hbase hfew hline rfl (thn (ho.run pins s σ H _ I h) fun v s1 ⟨x, H1, I1, r1, ty, q1⟩ => ?_)
  obtain ⟨p, xs, ex, ob, hob, hc, hd⟩ := ty
  have r1' := r1
  rw [ex] at r1'
  obtain rfl : v = Value.ref p := r1'
  obtain ⟨e1, _⟩ := (show ObjOk X.prog X.w H1 s1.heap p (.frz ob (.tup xs)) from I1.hok p _ hob)
  refine ⟨"tuple", id, pa, slot, hty, ⟨ob, e1, hc⟩, (fun a e => by cases e; exact ⟨ob, e1, hd⟩), ?_⟩
  have hA := ha.run cpos pins s1 σ H1 _ I1 q1
  rw [hs] at hA ⊢
  refine Calls.callWith_builtin (by show (false || (backTo cpos (starEach es X.env)).any (·.1)) = false; rw [hplain] <;> rfl) (Calls.evalArgs_plain ?_)
  exact thn hA fun us s2 ⟨vs, H2, I2, r2, q2⟩ => hm pins s2 σ H2 x vs _ us Q I2 r1 r2 q2
end
end G93

set_option Elab.async false
set_option linter.all false
set_option maxRecDepth 100000
set_option maxHeartbeats 4000000
/-! a walk whose turn is any wish of the heap behind it -/
namespace G93
open PySem PySem.Spec PyProof.Rows L2
theorem it_body {J : It} {n : Nat} {G : Hp → Prop} {Y : Nat → Hp → V → Hp → Prop} (w : Walk J n G Y) {BODY : V → Hp → (Hp → Prop) → Prop} {H0 : Hp} {Qd : Hp → Prop} (Pv : Nat → Hp → Prop) (h0 : Pv 0 H0) (hG : ∀ i H, i ≤ n → Pv i H → G H)
    (hs : ∀ i x H H', i < n → Pv i H → Y i H x H' → BODY x H' (Pv (i + 1))) (hd : ∀ H, Pv n H → Qd H) :
    ∃ W : Nat → Nat → Hp → Prop, (∃ m, W 0 m H0) ∧ ∀ i m H, W i m H → (J.stop i H ∧ Qd H) ∨ (J.go i H ∧ ∃ Nx : Hp → Prop, (∀ H', Nx H' → ∃ m', m' < m ∧ W (i + 1) m' H') ∧ ∀ x H', J.yld i H x H' → BODY x H' Nx) := by
  refine ⟨fun i m H => m = n - i ∧ i ≤ n ∧ Pv i H, ⟨n, by simp, Nat.zero_le _, h0⟩, ?_⟩
  rintro i m H ⟨rfl, hi, p⟩
  have q := hG i H hi p
  by_cases hlt : i < n
  · exact .inr ⟨w.goes i H hlt q, Pv (i + 1), fun H' p' => ⟨n - (i + 1), by omega, rfl, hlt, p'⟩, fun x H' y => hs i x H H' hlt p (w.yields i H x H' hlt q y)⟩
  · have e : i = n := by omega
    subst e
    exact .inl ⟨w.stops H q, hd H p⟩
end G93

set_option Elab.async false
set_option linter.all false
set_option maxRecDepth 100000
set_option maxHeartbeats 4000000
/-! the text by places, the built-in names, the module's numbers -/
namespace G93
open PySem PySem.Spec PyProof.Rows L2
def top (i : Nat) : Stmt := PySem.Challenge.pw_datedlines_k33_woods_of_trees.main.body.getD i (.Pass ⟨0, 0, 0, 0⟩)
def inClass (st : Stmt) (i : Nat) : Stmt := match st with
  | .ClassDef (body := b) .. => b.getD i (.Pass ⟨0, 0, 0, 0⟩)
  | _ => .Pass ⟨0, 0, 0, 0⟩
structure Bi (mg : Str → Option Value) : Prop where
  len_ : mg "len" = none
  range_ : mg "range" = none
  sorted_ : mg "sorted" = none
  tuple_ : mg "tuple" = none
  min_ : mg "min" = none
  max_ : mg "max" = none
  sum_ : mg "sum" = none
  int_ : mg "int" = none
  list_ : mg "list" = none
  dict_ : mg "dict" = none
  isinstance_ : mg "isinstance" = none
  bool_ : mg "bool" = none
  all_ : mg "all" = none
  enumerate_ : mg "enumerate" = none
  c_MOST_LEAVES_shapes : mg "MOST_LEAVES_shapes" = some (.int 12 (tkOf (mg "MOST_LEAVES_shapes")))
  c_MOST_JOINTS : mg "MOST_JOINTS" = some (.int 11 (tkOf (mg "MOST_JOINTS")))
  c_LEAST_GROUP : mg "LEAST_GROUP" = some (.int 2 (tkOf (mg "LEAST_GROUP")))
  c_MOST_LEAVES_calendars : mg "MOST_LEAVES_calendars" = some (.int 12 (tkOf (mg "MOST_LEAVES_calendars")))
  c_MOST_DAYS : mg "MOST_DAYS" = some (.int 11 (tkOf (mg "MOST_DAYS")))
theorem hu4_of {A : Around} {k : Nat} (hr : Room k A) : A.units + 64 < cLine := hr.units
theorem small_ {n : Nat} (h : n ≤ 10000) : n ≤ sizeLine := Nat.le_trans h (by decide)
theorem small_lt {n : Nat} (h : n ≤ 10000) : n < sizeLine := Nat.lt_of_le_of_lt h (by decide)

/-! ### rules that name the written part: within a comprehension -/
section
variable {X : Cx}
theorem ix_listK (K : PySem.W.Frag) (h : X.K = K) : IxR X (rIxL K) := by subst h; exact ix_list
theorem ix_tupK (K : PySem.W.Frag) (h : X.K = K) : IxR X (rIxT K) := by subst h; exact ix_tup
theorem op_in_seqK (K : PySem.W.Frag) (h : X.K = K) : OpR X (compareOp .In) (rIn K false) := by subst h; exact op_in_seq
theorem op_notIn_seqK (K : PySem.W.Frag) (h : X.K = K) : OpR X (compareOp .NotIn) (rIn K true) := by subst h; exact op_notIn_seq
theorem sl_listK (K : PySem.W.Frag) (h : X.K = K) : L2.SlR X (rSlL K) := by subst h; exact sl_list
theorem call_len_seqK (K : PySem.W.Frag) (h : X.K = K) : CallR X (.builtin "len") (fun xs H Q => ∃ p ys, xs = [.ref p] ∧ (SqL K H p ys ∨ SqT K H p ys) ∧ Q (.int ys.length) H) := by subst h; exact call_len_seq
theorem pg_tupK (K : PySem.W.Frag) (h : X.K = K) {es : List Expr} {k : Nat} {t : TGs} {n : Nat} {pos : Pos} (hc : X.calm = true) (hp : PGs X es t)
    (hn : (assignEach es X.env).length = n := by rfl) (hst : (assignEach es X.env).findIdx? (·.1) = none := by rfl) : PG X (.Tuple es k pos) (gTup K n t) := by subst h; exact pg_tup hc hp hn hst
theorem pi_tupK (K : PySem.W.Frag) {e tg : Expr} {te : TE} (h : X.K = K) (he : PE X e te) : PI X tg e (iTup K te) := by subst h; exact pi_tup he
end
theorem atI_any {α : Type} {xs : List α} {k : Int} (h0 : 0 ≤ k) (h1 : k < xs.length) : ∃ v, xs[k.toNat]? = some v ∧ atI xs k = some v := by
  obtain ⟨j, rfl⟩ := Int.eq_ofNat_of_zero_le h0
  have hj : j < xs.length := by omega
  exact ⟨xs[j], List.getElem?_eq_getElem hj, atI_nat (List.getElem?_eq_getElem hj)⟩
theorem atI_ints {p : List Int} {k : Int} (h0 : 0 ≤ k) (h1 : k < p.length) : ∃ v, p[k.toNat]? = some v ∧ atI (p.map V.int) k = some (.int v) := by
  obtain ⟨j, rfl⟩ := Int.eq_ofNat_of_zero_le h0
  have hj : j < p.length := by omega
  exact ⟨p[j], List.getElem?_eq_getElem hj, atI_nat (by rw [List.getElem?_map, List.getElem?_eq_getElem hj]; rfl)⟩
theorem map_bl {α : Type} {l : List α} {f : α → Option V} (h : ∀ x ∈ l, f x = some (V.bl true)) : ∃ bs : List Bool, l.filterMap f = bs.map V.bl ∧ bs.all id = true := by
  induction l with
  | nil => exact ⟨[], rfl, rfl⟩
  | cons x r ih =>
    obtain ⟨bs, e1, e2⟩ := ih fun y hy => h y (List.mem_cons_of_mem _ hy)
    exact ⟨true :: bs, by rw [List.filterMap_cons, h x List.mem_cons_self, e1]; rfl, by simpa using e2⟩
theorem Tp.tup_ref {H : Hp} {a : Addr} {ds : List PyData} (t : Tp H (.ref a) (.tuple ds)) : ∃ xs, H a = some (.tup xs) ∧ Tps H xs ds := by
  cases t with
  | tup h hl ha => exact ⟨_, h, hl, ha⟩
theorem get_map {α β : Type} {f : α → β} {l : List α} {i : Nat} {y : β} (h : (l.map f)[i]? = some y) : ∃ x, l[i]? = some x ∧ y = f x := by
  rw [List.getElem?_map] at h
  obtain ⟨x, hx, rfl⟩ := Option.map_eq_some_iff.mp h
  exact ⟨x, hx, rfl⟩
/-! ### the source of draws -/
def Src (H : Hp) (s : Addr) : Prop := ∃ x y : Int, H s = some (.lst [.int x, .int y]) ∧ 0 ≤ x ∧ 0 ≤ y ∧ y < 2147483647
theorem Src.obj {H : Hp} {s : Addr} (h : Src H s) : ∃ o, H s = some o := let ⟨x, y, h, _⟩ := h; ⟨_, h⟩
theorem Src.ne {H : Hp} {s p : Addr} (h : Src H s) (hp : H p = none) : s ≠ p := let ⟨x, y, h, _⟩ := h; ne_of_none h hp
theorem Src.ne' {H : Hp} {s p : Addr} (h : Src H s) (hp : H p = none) : p ≠ s := Ne.symm (h.ne hp)
theorem Src.up {H : Hp} {s p : Addr} {o : HO} (h : Src H s) (hp : s ≠ p) : Src (upd H p o) s := let ⟨x, y, h, h2⟩ := h; ⟨x, y, by rw [upd_ne hp]; exact h, h2⟩
theorem Src.new {H : Hp} {s p : Addr} {o : HO} (h : Src H s) (hp : H p = none) : Src (upd H p o) s := h.up (h.ne hp)
theorem Src.same {H H' : Hp} {s : Addr} (h : Src H s) (e : Same H H') : Src H' s := let ⟨x, y, h, h2⟩ := h; ⟨x, y, e _ _ h, h2⟩
theorem Src.ts {H H' : Hp} {s : Addr} (h : Src H s) (e : Kp s H H') : TS H H' := let ⟨x, y, h, h2⟩ := h; e.ts h
theorem Src.ne_lst {H : Hp} {s p : Addr} (h : Src H s) {xs : List V} (hp : H p = some (.tup xs)) : p ≠ s := let ⟨x, y, h, _⟩ := h; ne_of hp h (by intro z; cases z)
theorem Src.ne_dK {H : Hp} {s p : Addr} (h : Src H s) {xs : List (Key × V)} (hp : H p = some (.dK xs)) : p ≠ s := let ⟨x, y, h, _⟩ := h; ne_of hp h (by intro z; cases z)
def spTake : Sp := fun vs H Q _ => ∃ (s : Addr) (t : Int), vs = [.ref s, .int t] ∧ Src H s ∧ 0 < t ∧ t < 1073741824 ∧ ∀ (r : Int) (H' : Hp), 0 ≤ r → r < t → Src H' s → Kp s H H' → Q (.int r) H'
end G93

set_option Elab.async false
set_option linter.all false
set_option maxRecDepth 100000
set_option maxHeartbeats 4000000
/-! the draws -/
namespace G93
open PySem PySem.Spec PyProof.Rows L2
local macro_rules | `(tactic| trivial) => `(tactic| (repeat (first | refine ⟨_, rfl, ?_⟩ | refine ⟨_, _, rfl, rfl, ?_⟩ | refine .inl ⟨_, rfl, ?_⟩ | refine ⟨_, _, rfl, ?_⟩)))
abbrev s_law_take : Stmt := top 35
theorem sc_law_take : FnScope ["_law_source", "_law_top", "_law_drawn_here"] ["_law_source", "_law_top"] (defScope s_law_take) := ⟨rfl, rfl, rfl, by decide +kernel, rfl, by decide +kernel, by decide +kernel⟩
abbrev s_law_one : Stmt := top 36
theorem sc_law_one : FnScope ["_law_source", "_law_things"] ["_law_source", "_law_things"] (defScope s_law_one) := ⟨rfl, rfl, rfl, by decide +kernel, rfl, by decide +kernel, by decide +kernel⟩
abbrev s_law_pool : Stmt := top 34
theorem sc_law_pool : FnScope ["_law_script", "_law_k", "_law_cell", "_law_big", "_law_mixed"] ["_law_script", "_law_k"] (defScope s_law_pool) := ⟨rfl, rfl, rfl, by decide +kernel, rfl, by decide +kernel, by decide +kernel⟩
theorem mod_b (a : Int) {t : Int} (h : 0 < t) : 0 ≤ a % t ∧ a % t < t := ⟨Int.emod_nonneg _ (by omega), Int.emod_lt_of_pos _ h⟩
theorem b01 : ∀ b : Bool, (-(2 ^ 64) : Int) < (if b = true then 1 else 0) ∧ (if b = true then (1 : Int) else 0) < 2 ^ 64 := by decide
theorem b01' : ∀ b : Bool, (0 : Int) ≤ (if b = true then 1 else 0) := by decide
section
variable {P : Program} {w : World} {K : PySem.W.Frag} {mg : Str → Option Value} {base : Heap} {f : Addr} {fd : FuncData}
theorem ok_take (F : Fun K "_law_take" "_law_take" s_law_take f fd) (B : Bi mg) : FnOk P w K mg base CX0 1 f fd ["_law_source", "_law_top"] spTake := by
  refine F.ok sc_law_take (fun vs H Q E h => ?_) (fun cdv A outer s H vs Q E hr h => ?_)
  · obtain ⟨a, t, rfl, _⟩ := h
    rfl
  obtain ⟨a, t, rfl, hS, h0, h1, q⟩ := h
  obtain ⟨x, y, hH, hx, hy, hy2⟩ := hS
  refine ⟨_, (pss_cons (ps_if (pt_cmpR op_gt (pe_ix ix_list (pv 0) pe_int (fun _ _ => rfl)) pe_int (nomark _))
        (pss_cons (ps_set (i := 2) sc_law_take.nd rfl (Or.inl rfl) (pe_op op_mod (pe_callTy call_int1 (by rfl) B.int_ (by decide +kernel) (pa_cons (pe_ix ix_list (pv 0) pe_int (fun _ _ => rfl)) pa_nil)) (pv 1)))
        (pss_cons (ps_asg (pe_op op_fdiv (pe_ix ix_list (pv 0) pe_int (fun _ _ => rfl)) (pv 1)) (pg_sub (pv 0) pe_int set_list))
        (pss_one (ps_ret (pv 2)))))
        pss_nil)
      (pss_cons (ps_asg (pe_op op_mod (pe_callTy call_int1 (by rfl) B.int_ (by decide +kernel) (pa_cons (pe_op op_add (pe_op op_mul (pe_ix ix_list (pv 0) pe_int (fun _ _ => rfl)) pe_int) pe_int) pa_nil)) pe_int) (pg_sub (pv 0) pe_int set_list))
      (pss_one (ps_ret (pe_op op_mod (pe_callTy call_int1 (by rfl) B.int_ (by decide +kernel) (pa_cons (pe_op op_fdiv (pe_op op_mod (pe_callTy call_int1 (by rfl) B.int_ (by decide +kernel) (pa_cons (pe_op op_mul (pe_ix ix_list (pv 0) pe_int (fun _ _ => rfl)) (pe_ix ix_list (pv 0) pe_int (fun _ _ => rfl))) pa_nil)) pe_int) pe_int) pa_nil)) (pv 1))))))
   , ?_⟩
  trivial
  refine ⟨a, _, _, _, rfl, rfl, SqL.of hH, rfl, ?_⟩
  trivial
  refine ite2 (fun c => ?_) (fun c => ?_)
  · trivial
    refine ⟨a, _, _, _, rfl, rfl, SqL.of hH, rfl, ?_⟩
    trivial
    refine ⟨h0, ?_⟩
    trivial
    refine ⟨a, _, _, _, rfl, rfl, SqL.of hH, rfl, ?_⟩
    trivial
    refine ⟨⟨h0, h1⟩, ?_⟩
    trivial
    refine ⟨a, _, _, _, rfl, rfl, hH, rfl, ?_⟩
    trivial
    exact q _ _ (mod_b x h0).1 (mod_b x h0).2 ⟨x / t, y, upd_same, Int.ediv_nonneg hx (by omega), hy, hy2⟩ (Kp.self _)
  · trivial
    refine ⟨a, _, _, _, rfl, rfl, SqL.of hH, rfl, ?_⟩
    trivial
    refine ⟨.inr (by decide), ?_⟩
    trivial
    refine ⟨(by show (0 : Int) < 2147483647; decide), ?_⟩
    trivial
    refine ⟨a, _, _, _, rfl, rfl, hH, rfl, ?_⟩
    trivial
    refine ⟨a, _, _, _, rfl, rfl, SqL.of upd_same, rfl, ?_⟩
    trivial
    refine ⟨a, _, _, _, rfl, rfl, SqL.of upd_same, rfl, ?_⟩
    trivial
    have e := mod_b (y * 39373 + 7) (t := 2147483647) (by decide)
    refine ⟨.inr ⟨by omega, by omega⟩, ?_⟩
    trivial
    refine ⟨(by show (0 : Int) < 2147483629; decide), ?_⟩
    trivial
    refine ⟨⟨by decide, by decide⟩, ?_⟩
    trivial
    refine ⟨h0, ?_⟩
    exact q _ _ (mod_b _ h0).1 (mod_b _ h0).2 ⟨x, _, upd_same, hx, e.1, e.2⟩ (Kp.self _)
/-- a member of a list of so many things, drawn -/
def spOne (K : PySem.W.Frag) : Sp := fun vs H Q _ => ∃ (s l : Addr) (xs : List V), vs = [.ref s, .ref l] ∧ Src H s ∧ l ≠ s ∧ H l = some (.lst xs) ∧ 0 < xs.length ∧ xs.length < 1073741824 ∧
  ∀ (i : Nat) (v : V) (H' : Hp), xs[i]? = some v → Src H' s → Kp s H H' → Q v H'
theorem ok_one (F : Fun K "_law_one" "_law_one" s_law_one f fd) (B : Bi mg) (C_law_take : Cal P w K mg base CX0 1 "_law_take" ["_law_source", "_law_top"] spTake) :
    FnOk P w K mg base CX0 2 f fd ["_law_source", "_law_things"] (spOne K) := by
  refine F.ok sc_law_one (fun vs H Q E h => ?_) (fun cdv A outer s H vs Q E hr h => ?_)
  · obtain ⟨a, t, xs, rfl, _⟩ := h
    rfl
  obtain ⟨a, l, xs, rfl, hS, hne, hl, h0, h1, q⟩ := h
  refine ⟨_, (pss_one (ps_ret (pe_ix ix_list (pv 1) (pe_callC C_law_take (hr.mono (by decide)) (by rfl) pass0 (pa_cons (pv 0) (pa_cons (pe_callB call_len_seq (by rfl) B.len_ (by decide +kernel) (pa_cons (pv 1) pa_nil)) pa_nil))) (fun _ _ => rfl))))
   , ?_⟩
  trivial
  refine ⟨l, _, rfl, .inl (SqL.of hl), ?_⟩
  refine ⟨a, xs.length, rfl, hS, by omega, by omega, fun r H' r0 r1 hS' k => ?_⟩
  obtain ⟨j, rfl⟩ := Int.eq_ofNat_of_zero_le r0
  have hj : j < xs.length := by omega
  refine ⟨l, _, _, _, rfl, rfl, SqL.of (k _ _ hne hl), atI_nat (List.getElem?_eq_getElem hj), ?_⟩
  exact q j _ _ (List.getElem?_eq_getElem hj) hS' k
/-- the source is laid -/
def spPool (K : PySem.W.Frag) : Sp := fun vs H Q _ => ∃ (a : Addr) (ns : List Int), vs = [.ref a, .int 0] ∧ SqL K H a (ns.map V.int) ∧
  ∀ (r : Addr) (H' : Hp), H r = none → Same H H' → Src H' r → Q (.ref r) H'
theorem ok_pool (F : Fun K "_law_pool" "_law_pool" s_law_pool f fd) (B : Bi mg) : FnOk P w K mg base CX0 1 f fd ["_law_script", "_law_k"] (spPool K) := by
  refine F.ok sc_law_pool (fun vs H Q E h => ?_) (fun cdv A outer s H vs Q E hr h => ?_)
  · obtain ⟨a, ns, rfl, _⟩ := h
    rfl
  obtain ⟨a, ns, rfl, hS, q⟩ := h
  refine ⟨_, (pss_cons (ps_set (i := 2) sc_law_pool.nd rfl (Or.inl rfl) pe_int)
      (pss_cons (ps_if (pt_cmpR op_lt (pv 1) (pe_callB call_len_seq (by rfl) B.len_ (by decide +kernel) (pa_cons (pv 0) pa_nil)) (nomark _))
        (pss_one (ps_set (i := 2) sc_law_pool.nd rfl (Or.inl rfl) (pe_ix ix_list (pv 0) (pv 1) (fun _ _ => rfl))))
        (pss_one (ps_if (pt_truth (pv 0) (by intro _; rfl))
          (pss_one (ps_set (i := 2) sc_law_pool.nd rfl (Or.inl rfl) (pe_ix ix_list (pv 0) pe_int (fun _ _ => rfl))))
          pss_nil)))
      (pss_cons (ps_set (i := 3) sc_law_pool.nd rfl (Or.inl rfl) (pe_callB (call_max2 rfl) (by rfl) B.max_ (by decide +kernel) (pa_cons (pe_callTy call_int1 (by rfl) B.int_ (by decide +kernel) (pa_cons (pv 2) pa_nil)) (pa_cons (pe_callTy call_int1 (by rfl) B.int_ (by decide +kernel) (pa_cons (pe_op op_sub (pe_un un_neg pe_int) (pv 2)) pa_nil)) pa_nil))))
      (pss_cons (ps_set (i := 4) sc_law_pool.nd rfl (Or.inl rfl) (pe_op op_mod (pe_callTy call_int1 (by rfl) B.int_ (by decide +kernel) (pa_cons (pe_op op_mul (pe_op op_add (pe_op op_add (pe_op op_add (pe_op op_mod (pe_callTy call_int1 (by rfl) B.int_ (by decide +kernel) (pa_cons (pv 3) pa_nil)) pe_int) (pe_op op_mul (pe_op op_mul pe_int (pv 1)) (pv 1))) (pe_op op_mul pe_int (pv 1))) pe_int) pe_int) pa_nil)) pe_int))
      (pss_one (ps_ret (pe_lst (pa_cons (pe_op op_mul (pv 3) (pe_callTy call_int1 (by rfl) B.int_ (by decide +kernel) (pa_cons (pe_cmpR op_ge (pv 3) (pe_op op_pow pe_int pe_int) (nomark _)) pa_nil))) (pa_cons (pv 4) pa_nil)))))))))
   , ?_⟩
  trivial
  refine ⟨a, _, rfl, .inl hS, ?_⟩
  trivial
  have key : ∀ i : Int, 0 ≤ (if -1 - i > i then -1 - i else i) := fun i => by split <;> omega
  refine ite2 (fun c => ?_) (fun c => ?_)
  · trivial
    have c' : (0 : Int) < ((ns.map V.int).length : Nat) := of_decide_eq_true c
    have hk : 0 < ns.length := by rw [List.length_map] at c'; omega
    refine ⟨a, _, _, _, rfl, rfl, hS, (show atI (ns.map V.int) ((0 : Nat) : Int) = some (V.int ns[0]) from atI_nat (by rw [List.getElem?_map, List.getElem?_eq_getElem hk]; rfl)), ?_⟩
    trivial
    refine ⟨(by show (0 : Int) < 2147483629; decide), ?_⟩
    trivial
    refine ⟨.inl (by decide), ?_⟩
    trivial
    refine ⟨.inl (by decide), ?_⟩
    trivial
    refine ⟨.inl (by decide), ?_⟩
    trivial
    refine ⟨.inr (by decide), ?_⟩
    trivial
    refine ⟨(by show (0 : Int) < 2147483647; decide), ?_⟩
    trivial
    refine ⟨(by show CPow 10 18; unfold CPow; decide), ?_⟩
    trivial
    refine .inr ⟨_, rfl, ?_⟩
    trivial
    refine ⟨.inr (b01 _), ?_⟩
    trivial
    refine ⟨(by show 2 ≤ sizeLine; decide), fun l hl => ?_⟩
    refine q l _ hl (L2.Same.of_new hl _) ⟨_, _, upd_same, Int.mul_nonneg (key _) (b01' _), (mod_b _ (by decide)).1, (mod_b _ (by decide)).2⟩
  · have c' : ¬ (0 : Int) < ((ns.map V.int).length : Nat) := of_decide_eq_false (Bool.eq_false_iff.mpr c)
    have hk : ns = [] := by
      cases ns with
      | nil => rfl
      | cons n r => simp at c'
    subst hk
    trivial
    refine ⟨_, .inl ⟨_, hS, rfl⟩, ?_⟩
    refine iteF ?_
    trivial
    refine ⟨(by show (0 : Int) < 2147483629; decide), ?_⟩
    trivial
    refine ⟨.inl (by decide), ?_⟩
    trivial
    refine ⟨.inl (by decide), ?_⟩
    trivial
    refine ⟨.inl (by decide), ?_⟩
    trivial
    refine ⟨.inr (by decide), ?_⟩
    trivial
    refine ⟨(by show (0 : Int) < 2147483647; decide), ?_⟩
    trivial
    refine ⟨(by show CPow 10 18; unfold CPow; decide), ?_⟩
    trivial
    refine .inr ⟨_, rfl, ?_⟩
    trivial
    refine ⟨.inr (b01 _), ?_⟩
    trivial
    refine ⟨(by show 2 ≤ sizeLine; decide), fun l hl => ?_⟩
    refine q l _ hl (L2.Same.of_new hl _) ⟨_, _, upd_same, Int.mul_nonneg (key _) (b01' _), (mod_b _ (by decide)).1, (mod_b _ (by decide)).2⟩

end
end G93

set_option Elab.async false
set_option linter.all false
set_option maxRecDepth 100000
set_option maxHeartbeats 4000000
/-! plain laws: the leaves of a shape, by the program's clauses and by the law's own -/
namespace G93
open PySem
/-! ### the least of a list -/
def lmin : List Int → Int
  | [] => 0
  | [x] => x
  | x :: y :: r => if x ≤ lmin (y :: r) then x else lmin (y :: r)
theorem lmin_mem : ∀ {l : List Int}, l ≠ [] → lmin l ∈ l
  | [x], _ => by simp [lmin]
  | x :: y :: r, _ => by
    have h := lmin_mem (l := y :: r) (by simp)
    unfold lmin
    split
    · simp
    · exact List.mem_cons_of_mem _ h
theorem lmin_le : ∀ {l : List Int} {a : Int}, a ∈ l → lmin l ≤ a
  | [x], a, h => by
    have e : a = x := by simpa using h
    subst e
    exact Int.le_refl _
  | x :: y :: r, a, h => by
    unfold lmin
    rcases List.mem_cons.mp h with e | h
    · subst e
      split
      · exact Int.le_refl _
      · omega
    · have h2 := lmin_le (l := y :: r) h
      split
      · omega
      · exact h2
theorem lmin_is {l : List Int} {m : Int} (h : m ∈ l) (h2 : ∀ y ∈ l, m ≤ y) : lmin l = m := by
  have h3 := lmin_le h
  have h4 := h2 _ (lmin_mem (l := l) (by intro z; subst z; cases h))
  omega

/-! ### the program's clauses -/
def progLoop (lv : PyData → List Int) (cap : Bool) : List PyData → List Int → Option Int → Option (List Int)
  | [], found, _ => some found
  | p :: ps, found, last =>
    if lv p = [] ∨ (∃ l, last = some l ∧ lmin (lv p) ≤ l) ∨ (cap = true ∧ found.length + (lv p).length > 12) then none
    else progLoop lv cap ps (found ++ lv p) (some (lmin (lv p)))
def progLv : Nat → PyData → List Int
  | _, .int i => [i]
  | k + 1, .tuple ds => if 2 ≤ ds.length ∧ ds.length ≤ 12 then (progLoop (progLv k) true ds [] none).getD [] else []
  | _, _ => []
def isRange (l : List Int) : Prop := l.Perm ((List.range l.length).map Int.ofNat)
instance (l : List Int) : Decidable (isRange l) := inferInstanceAs (Decidable (List.Perm _ _))
def progSize : PyData → Int
  | .tuple ds => if 1 ≤ ds.length ∧ ds.length ≤ 12 then (match progLoop (progLv 11) false ds [] none with
    | none => 0
    | some found => if isRange found ∧ found.length ≤ 12 then found.length else 0) else 0
  | _ => 0
/-! ### the law's own -/
def lawLoop (lv : PyData → Option (List Int)) : List PyData → List Int → List Int → Option (List Int × List Int)
  | [], found, least => some (found, least)
  | p :: ps, found, least => match lv p with
    | none => none
    | some s => lawLoop lv ps (found ++ s) (least ++ [lmin s])
def lawLv : Nat → PyData → Option (List Int)
  | _, .int i => some [i]
  | k + 1, .tuple ds => if 2 ≤ ds.length then (match lawLoop (lawLv k) ds [] [] with
    | none => none
    | some (found, least) => if least.Pairwise (· ≤ ·) ∧ found.length < 40 then some found else none) else none
  | _, _ => none
def lawSize : PyData → Int
  | .tuple ds => if ds = [] then 0 else (match lawLoop (lawLv 11) ds [] [] with
    | none => 0
    | some (found, least) => if least.Pairwise (· ≤ ·) ∧ isRange found ∧ found.length ≤ 12 then found.length else 0)
  | _ => 0

/-! ### loops in one piece -/
theorem progLoop_some {lv : PyData → List Int} {cap : Bool} : ∀ {ds : List PyData} {f : List Int} {last : Option Int} {r : List Int}, progLoop lv cap ds f last = some r ↔
    ((∀ d ∈ ds, lv d ≠ []) ∧ (ds.map fun d => lmin (lv d)).Pairwise (· < ·) ∧ (∀ l, last = some l → ∀ d ∈ ds, l < lmin (lv d)) ∧ (cap = true → ∀ i, i < ds.length → f.length + ((ds.take (i + 1)).flatMap lv).length ≤ 12) ∧ r = f ++ ds.flatMap lv)
  | [], f, last, r => by
    unfold progLoop
    simp
    exact eq_comm
  | d :: ds, f, last, r => by
    unfold progLoop
    constructor
    · intro h
      split at h
      · cases h
      · rename_i hc
        obtain ⟨a, b, c, e, g⟩ := progLoop_some.mp h
        have h1 : lv d ≠ [] := fun z => hc (.inl z)
        have h2 : ∀ l, last = some l → l < lmin (lv d) := fun l z => by
          by_cases q : l < lmin (lv d)
          · exact q
          · exact absurd (.inr (.inl ⟨l, z, by omega⟩)) hc
        have h3 : cap = true → f.length + (lv d).length ≤ 12 := fun z => by
          by_cases q : f.length + (lv d).length ≤ 12
          · exact q
          · exact absurd (.inr (.inr ⟨z, by omega⟩)) hc
        refine ⟨fun x hx => ?_, ?_, fun l z x hx => ?_, fun z i hi => ?_, ?_⟩
        · rcases List.mem_cons.mp hx with q | q
          · subst q
            exact h1
          · exact a x q
        · rw [List.map_cons, List.pairwise_cons]
          refine ⟨fun y hy => ?_, b⟩
          obtain ⟨x, hx, rfl⟩ := List.mem_map.mp hy
          exact c _ rfl x hx
        · rcases List.mem_cons.mp hx with q | q
          · subst q
            exact h2 l z
          · have q1 := h2 l z
            have q2 := c _ rfl x q
            omega
        · cases i with
          | zero => simpa using h3 z
          | succ j =>
            have q := e z j (by simpa using hi)
            simp only [List.take_succ_cons, List.flatMap_cons, List.length_append] at q ⊢
            omega
        · rw [g, List.flatMap_cons, List.append_assoc]
    · rintro ⟨a, b, c, e, rfl⟩
      rw [if_neg, List.flatMap_cons, ← List.append_assoc]
      · rw [List.map_cons, List.pairwise_cons] at b
        refine progLoop_some.mpr ⟨fun x hx => a x (List.mem_cons_of_mem _ hx), b.2, fun l z x hx => ?_, fun z i hi => ?_, rfl⟩
        · cases z
          exact b.1 _ (List.mem_map_of_mem (f := fun d => lmin (lv d)) hx)
        · have q := e z (i + 1) (by simpa using hi)
          simp only [List.take_succ_cons, List.flatMap_cons, List.length_append] at q ⊢
          omega
      · rintro (q | ⟨l, q1, q2⟩ | ⟨q1, q2⟩)
        · exact a d List.mem_cons_self q
        · have q3 := c l q1 d List.mem_cons_self
          omega
        · have q3 := e q1 0 (by simp)
          simp at q3
          omega
theorem lawLoop_some {lv : PyData → Option (List Int)} : ∀ {ds : List PyData} {f m : List Int} {r : List Int × List Int}, lawLoop lv ds f m = some r ↔
    ∃ ls : List (List Int), ds.map lv = ls.map some ∧ r = (f ++ ls.flatten, m ++ ls.map lmin)
  | [], f, m, r => by
    unfold lawLoop
    constructor
    · intro h
      cases h
      exact ⟨[], rfl, by simp⟩
    · rintro ⟨ls, h, rfl⟩
      cases ls with
      | nil => simp
      | cons => simp at h
  | d :: ds, f, m, r => by
    unfold lawLoop
    cases e : lv d with
    | none =>
      constructor
      · intro h
        cases h
      · rintro ⟨ls, h, rfl⟩
        cases ls with
        | nil => simp at h
        | cons l ls => simp [e] at h
    | some s =>
      simp only
      rw [lawLoop_some]
      constructor
      · rintro ⟨ls, h, rfl⟩
        exact ⟨s :: ls, by simp [e, h], by simp⟩
      · rintro ⟨ls, h, rfl⟩
        cases ls with
        | nil => simp at h
        | cons l ls =>
          simp only [List.map_cons, List.cons.injEq] at h
          obtain ⟨h1, h2⟩ := h
          rw [e] at h1
          cases h1
          exact ⟨ls, h2, by simp⟩
/-- what the law's own walk tells is no empty list -/
theorem lawLv_ne : ∀ (k : Nat) (d : PyData) (l : List Int), lawLv k d = some l → l ≠ []
  | k, .int i, l, h => by
    cases k <;> (unfold lawLv at h; cases h; simp)
  | 0, .tuple ds, l, h => by simp [lawLv] at h
  | k + 1, .tuple ds, l, h => by
    unfold lawLv at h
    split at h
    · rename_i h2
      split at h
      · cases h
      · rename_i found least e
        split at h
        · cases h
          obtain ⟨ls, h3, h4⟩ := lawLoop_some.mp e
          cases h4
          cases ds with
          | nil => simp at h2
          | cons d ds =>
            cases ls with
            | nil => simp at h3
            | cons s ls =>
              simp only [List.map_cons, List.cons.injEq] at h3
              have q := lawLv_ne k d s h3.1
              simp [q]
        · cases h
    · cases h
  | 0, .none, l, h => by simp [lawLv] at h
  | 0, .bool _, l, h => by simp [lawLv] at h
  | 0, .str _, l, h => by simp [lawLv] at h
  | 0, .list _, l, h => by simp [lawLv] at h
  | 0, .dict _, l, h => by simp [lawLv] at h
  | k + 1, .none, l, h => by simp [lawLv] at h
  | k + 1, .bool _, l, h => by simp [lawLv] at h
  | k + 1, .str _, l, h => by simp [lawLv] at h
  | k + 1, .list _, l, h => by simp [lawLv] at h
  | k + 1, .dict _, l, h => by simp [lawLv] at h
end G93

set_option Elab.async false
set_option linter.all false
set_option maxRecDepth 100000
set_option maxHeartbeats 4000000
/-! plain laws: both say the same of a wood -/
namespace G93
open PySem
theorem getD_ne {o : Option (List Int)} (h : o.getD [] ≠ []) : ∃ r, o = some r ∧ o.getD [] = r := by
  cases o with
  | none => exact absurd rfl h
  | some r => exact ⟨r, rfl, rfl⟩
theorem lt_le {l : List Int} (h : l.Pairwise (· < ·)) : l.Pairwise (· ≤ ·) := h.imp fun h => Int.le_of_lt h
theorem flat_len {α : Type} {f : α → List Int} {ds : List α} (h : ∀ i, i < ds.length → ((ds.take (i + 1)).flatMap f).length ≤ 12) : (ds.flatMap f).length ≤ 12 := by
  cases ds with
  | nil => simp
  | cons d r =>
    have q := h r.length (by simp)
    rw [List.take_of_length_le (by simp)] at q
    exact q
theorem prog_law : ∀ (k : Nat) (d : PyData), progLv k d ≠ [] → lawLv k d = some (progLv k d) ∧ (progLv k d).length ≤ 12
  | k, .int i, _ => by cases k <;> simp [progLv, lawLv]
  | k + 1, .tuple ds, h => by
    unfold progLv at h ⊢
    split at h
    · rename_i h2
      rw [if_pos h2]
      obtain ⟨r, e, e2⟩ := getD_ne h
      rw [e2]
      obtain ⟨a, b, _, c, rfl⟩ := progLoop_some.mp e
      have hlen : (ds.flatMap (progLv k)).length ≤ 12 := flat_len fun i hi => by
        have q := c rfl i hi
        simpa using q
      rw [List.nil_append]
      refine ⟨?_, hlen⟩
      unfold lawLv
      rw [if_pos h2.1]
      have e3 : lawLoop (lawLv k) ds [] [] = some (ds.flatMap (progLv k), ds.map fun d => lmin (progLv k d)) := by
        refine lawLoop_some.mpr ⟨ds.map (progLv k), ?_, ?_⟩
        · rw [List.map_map]
          exact List.map_congr_left fun d hd => (prog_law k d (a d hd)).1
        · rw [List.map_map, List.nil_append, List.nil_append, List.flatMap_def]; rfl
      rw [e3]
      simp only
      rw [if_pos ⟨lt_le b, by omega⟩]
    · exact absurd rfl h
  | 0, .tuple _, h => by simp [progLv] at h
  | 0, .none, h => by simp [progLv] at h
  | 0, .bool _, h => by simp [progLv] at h
  | 0, .str _, h => by simp [progLv] at h
  | 0, .list _, h => by simp [progLv] at h
  | 0, .dict _, h => by simp [progLv] at h
  | k + 1, .none, h => by simp [progLv] at h
  | k + 1, .bool _, h => by simp [progLv] at h
  | k + 1, .str _, h => by simp [progLv] at h
  | k + 1, .list _, h => by simp [progLv] at h
  | k + 1, .dict _, h => by simp [progLv] at h
theorem strict_of : ∀ {ls : List (List Int)}, (∀ l ∈ ls, l ≠ []) → ls.flatten.Nodup → (ls.map lmin).Pairwise (· ≤ ·) → (ls.map lmin).Pairwise (· < ·)
  | [], _, _, _ => .nil
  | l :: ls, h1, h2, h3 => by
    rw [List.map_cons, List.pairwise_cons] at h3 ⊢
    rw [List.flatten_cons, List.nodup_append] at h2
    refine ⟨fun y hy => ?_, strict_of (fun x hx => h1 x (List.mem_cons_of_mem _ hx)) h2.2.1 h3.2⟩
    obtain ⟨m, hm, rfl⟩ := List.mem_map.mp hy
    have q := h3.1 _ hy
    have q2 := h2.2.2 _ (lmin_mem (h1 l List.mem_cons_self)) _ (List.mem_flatten.mpr ⟨m, hm, lmin_mem (h1 m (List.mem_cons_of_mem _ hm))⟩)
    omega
theorem len_flat : ∀ {ls : List (List Int)}, (∀ l ∈ ls, l ≠ []) → ls.length ≤ ls.flatten.length
  | [], _ => by simp
  | l :: ls, h => by
    have q := len_flat fun x hx => h x (List.mem_cons_of_mem _ hx)
    have q2 : 0 < l.length := List.length_pos_iff.mpr (h l List.mem_cons_self)
    rw [List.flatten_cons, List.length_append, List.length_cons]
    omega
theorem map_some : ∀ {lv : PyData → Option (List Int)} {lp : PyData → List Int} {ds : List PyData} {ls : List (List Int)}, ds.map lv = ls.map some → (∀ d ∈ ds, ∀ l ∈ ls, lv d = some l → lp d = l) → ds.map lp = ls
  | _, _, [], [], _, _ => rfl
  | _, _, [], _ :: _, h, _ => by simp at h
  | _, _, _ :: _, [], h, _ => by simp at h
  | lv, lp, d :: ds, l :: ls, h, q => by
    simp only [List.map_cons, List.cons.injEq] at h ⊢
    exact ⟨q d List.mem_cons_self l List.mem_cons_self h.1, map_some h.2 fun d hd l hl => q d (List.mem_cons_of_mem _ hd) l (List.mem_cons_of_mem _ hl)⟩
theorem some_mem : ∀ {lv : PyData → Option (List Int)} {ds : List PyData} {ls : List (List Int)}, ds.map lv = ls.map some → ∀ l ∈ ls, ∃ d ∈ ds, lv d = some l
  | lv, ds, ls, h, l, hl => by
    have q : some l ∈ ds.map lv := by rw [h]; exact List.mem_map_of_mem hl
    obtain ⟨d, hd, e⟩ := List.mem_map.mp q
    exact ⟨d, hd, e⟩
theorem sub_flat {ls : List (List Int)} {l : List Int} (h : l ∈ ls) : l.Sublist ls.flatten := List.sublist_flatten_of_mem h
/-- what a walk's loop gives, of lists with no leaf twice -/
theorem loop_prog {lv : PyData → Option (List Int)} {lp : PyData → List Int} {ds : List PyData} {ls : List (List Int)} {cap : Bool} (h : ds.map lv = ls.map some) (hn : ls.flatten.Nodup) (hl : ls.flatten.length ≤ 12) (hs : (ls.map lmin).Pairwise (· ≤ ·))
    (ne : ∀ d l, lv d = some l → l ≠ []) (q : ∀ d ∈ ds, ∀ l, lv d = some l → l.Nodup → l.length ≤ 12 → lp d = l) : progLoop lp cap ds [] none = some ls.flatten ∧ ds.length ≤ 12 := by
  have h1 : ∀ l ∈ ls, l ≠ [] := fun l hl => let ⟨d, _, e⟩ := some_mem h l hl; ne d l e
  have h2 : ds.map lp = ls := map_some h fun d hd l hl' e => q d hd l e ((sub_flat hl').nodup hn) (Nat.le_trans (sub_flat hl').length_le hl)
  have h3 : ds.flatMap lp = ls.flatten := by rw [List.flatMap_def, h2]
  have h4 : ds.length = ls.length := by rw [← h2, List.length_map]
  refine ⟨progLoop_some.mpr ⟨fun d hd => h1 _ (by rw [← h2]; exact List.mem_map_of_mem hd), ?_, fun l z => (by cases z), fun _ i hi => ?_, by rw [h3, List.nil_append]⟩, ?_⟩
  · have e : (ds.map fun d => lmin (lp d)) = ls.map lmin := by rw [← h2, List.map_map]; rfl
    rw [e]
    exact strict_of h1 hn hs
  · have e : ((ds.take (i + 1)).flatMap lp).Sublist (ds.flatMap lp) := by
      have z := List.sublist_append_left ((ds.take (i + 1)).flatMap lp) ((ds.drop (i + 1)).flatMap lp)
      rw [← List.flatMap_append, List.take_append_drop] at z
      exact z
    have := e.length_le
    rw [h3] at this
    simp only [List.length_nil]
    omega
  · have := len_flat h1
    omega
theorem law_prog : ∀ (k : Nat) (d : PyData) (l : List Int), lawLv k d = some l → l.Nodup → l.length ≤ 12 → progLv k d = l
  | k, .int i, l, h, _, _ => by
    cases k <;> (unfold lawLv at h; cases h; unfold progLv; rfl)
  | k + 1, .tuple ds, l, h, hn, hl => by
    unfold lawLv at h
    unfold progLv
    split at h
    · rename_i h2
      split at h
      · cases h
      · rename_i found least e
        split at h
        · rename_i h3
          cases h
          obtain ⟨ls, h4, h5⟩ := lawLoop_some.mp e
          cases h5
          rw [List.nil_append] at hn hl h3 ⊢
          obtain ⟨q1, q2⟩ := loop_prog (lp := progLv k) (cap := true) h4 hn hl h3.1 (fun d l => lawLv_ne k d l) fun d _ l e n z => law_prog k d l e n z
          rw [if_pos ⟨h2, q2⟩, q1]
          rfl
        · cases h
    · cases h
  | 0, .tuple _, l, h, _, _ => by simp [lawLv] at h
  | 0, .none, l, h, _, _ => by simp [lawLv] at h
  | 0, .bool _, l, h, _, _ => by simp [lawLv] at h
  | 0, .str _, l, h, _, _ => by simp [lawLv] at h
  | 0, .list _, l, h, _, _ => by simp [lawLv] at h
  | 0, .dict _, l, h, _, _ => by simp [lawLv] at h
  | k + 1, .none, l, h, _, _ => by simp [lawLv] at h
  | k + 1, .bool _, l, h, _, _ => by simp [lawLv] at h
  | k + 1, .str _, l, h, _, _ => by simp [lawLv] at h
  | k + 1, .list _, l, h, _, _ => by simp [lawLv] at h
  | k + 1, .dict _, l, h, _, _ => by simp [lawLv] at h
theorem range_nodup (n : Nat) : ((List.range n).map Int.ofNat).Nodup :=
  List.Pairwise.map _ (fun a b h z => h (by cases z; rfl)) List.nodup_range
theorem isRange.nodup {l : List Int} (h : isRange l) : l.Nodup := h.nodup_iff.mpr (range_nodup _)
/-- so many leaves by the law's own clauses, so many by the program's -/
theorem size_eq {d : PyData} {n : Int} (h1 : 1 ≤ n) (h2 : n ≤ 12) : progSize d = n ↔ lawSize d = n := by
  cases d with
  | tuple ds =>
    simp only [progSize, lawSize]
    constructor
    · intro h
      split at h
      · rename_i hd
        rw [if_neg (by intro z; subst z; simp at hd)]
        split at h
        · omega
        · rename_i found e
          split at h
          · rename_i hr
            obtain ⟨a, b, _, _, rfl⟩ := progLoop_some.mp e
            rw [List.nil_append] at h hr
            have e3 : lawLoop (lawLv 11) ds [] [] = some (ds.flatMap (progLv 11), ds.map fun d => lmin (progLv 11 d)) := by
              refine lawLoop_some.mpr ⟨ds.map (progLv 11), ?_, ?_⟩
              · rw [List.map_map]
                exact List.map_congr_left fun d hd => (prog_law 11 d (a d hd)).1
              · rw [List.map_map, List.nil_append, List.nil_append, List.flatMap_def]; rfl
            rw [e3]
            simp only
            rw [if_pos ⟨lt_le b, hr.1, hr.2⟩]
            exact h
          · omega
      · omega
    · intro h
      split at h
      · omega
      · rename_i hd
        split at h
        · omega
        · rename_i found least e
          split at h
          · rename_i hr
            obtain ⟨ls, h4, h5⟩ := lawLoop_some.mp e
            cases h5
            rw [List.nil_append] at h hr
            rw [List.nil_append] at hr
            obtain ⟨q1, q2⟩ := loop_prog (lp := progLv 11) (cap := false) h4 hr.2.1.nodup hr.2.2 hr.1 (fun d l => lawLv_ne 11 d l) fun d _ l e n z => law_prog 11 d l e n z
            have hd' : 1 ≤ ds.length := List.length_pos_iff.mpr hd
            rw [if_pos ⟨hd', q2⟩, q1]
            simp only
            rw [if_pos hr.2]
            exact h
          · omega
  | _ =>
    simp only [progSize, lawSize]
theorem lawSize_nn (d : PyData) : 0 ≤ lawSize d ∧ lawSize d ≤ 12 := by
  unfold lawSize
  split
  · split
    · omega
    · split
      · omega
      · split
        · rename_i h
          omega
        · omega
  · omega
end G93

set_option Elab.async false
set_option linter.all false
set_option maxRecDepth 100000
set_option maxHeartbeats 4000000
/-! plain laws: shapes joined lowest leaf by lowest leaf make a wood -/
namespace G93
open PySem
def joinD (dom g : List Int) : List Int := dom.filter fun x => decide (x ∉ g.tail)
def joinF (f : Int → PyData) (g : List Int) : Int → PyData := fun x => if x = g.headD 0 then .tuple (g.map f) else f x
def forest (s : List Int × (Int → PyData)) (gs : List (List Int)) : List Int × (Int → PyData) := gs.foldl (fun s g => (joinD s.1 g, joinF s.2 g)) s
def dom0 (n : Nat) : List Int := (List.range n).map Int.ofNat
def woodOf (s : List Int × (Int → PyData)) : PyData := .tuple (s.1.map s.2)
structure GOk (dom g : List Int) : Prop where
  asc : g.Pairwise (· < ·)
  two : 2 ≤ g.length
  mem : ∀ x ∈ g, x ∈ dom
structure FI (n : Nat) (dom : List Int) (f : Int → PyData) (L : Int → List Int) : Prop where
  asc : dom.Pairwise (· < ·)
  el : ∀ x ∈ dom, (∃ m : Nat, (∀ k, m ≤ k → lawLv k (f x) = some (L x)) ∧ m + 1 ≤ (L x).length) ∧ x ∈ L x ∧ ∀ y ∈ L x, x ≤ y
  pm : (dom.flatMap L).Perm (dom0 n)
theorem dom0_asc (n : Nat) : (dom0 n).Pairwise (· < ·) := List.Pairwise.map _ (fun a b h => Int.ofNat_lt.mpr h) List.pairwise_lt_range
theorem dom0_nodup (n : Nat) : (dom0 n).Nodup := range_nodup n
theorem mem_dom0 {n : Nat} {x : Int} : x ∈ dom0 n ↔ 0 ≤ x ∧ x < n := by
  unfold dom0
  rw [List.mem_map]
  constructor
  · rintro ⟨k, hk, rfl⟩
    have := List.mem_range.mp hk
    exact ⟨Int.natCast_nonneg k, by show (k : Int) < n; omega⟩
  · rintro ⟨h0, h1⟩
    exact ⟨x.toNat, List.mem_range.mpr (by omega), by show ((x.toNat : Nat) : Int) = x; omega⟩
theorem dom0_len (n : Nat) : (dom0 n).length = n := by unfold dom0; simp
theorem asc_nodup {l : List Int} (h : l.Pairwise (· < ·)) : l.Nodup := h.imp fun h z => by omega
theorem asc_perm {a b : List Int} (h : a.Perm b) (ha : a.Pairwise (· < ·)) (hb : b.Pairwise (· < ·)) : a = b :=
  h.eq_of_pairwise (fun x y _ _ h1 h2 => by omega) ha hb
theorem FI.init (n : Nat) : FI n (dom0 n) PyData.int (fun x => [x]) where
  asc := dom0_asc n
  el := fun x _ => ⟨⟨0, fun k _ => by cases k <;> rfl, by simp⟩, by simp, fun y hy => by rw [List.mem_singleton] at hy; omega⟩
  pm := by
    have : (dom0 n).flatMap (fun x => [x]) = dom0 n := by induction dom0 n <;> simp_all
    rw [this]
theorem head_tail {g : List Int} (h : 2 ≤ g.length) : ∃ a b r, g = a :: b :: r := by
  match g, h with
  | a :: b :: r, _ => exact ⟨a, b, r, rfl⟩
theorem joinD_mem {dom g : List Int} {x : Int} : x ∈ joinD dom g ↔ x ∈ dom ∧ x ∉ g.tail := by
  unfold joinD
  rw [List.mem_filter, decide_eq_true_iff]
theorem lmin_head {L : Int → List Int} {g : List Int} (h : ∀ x ∈ g, x ∈ L x ∧ ∀ y ∈ L x, x ≤ y) : (g.map L).map lmin = g := by
  induction g with
  | nil => rfl
  | cons a r ih =>
    rw [List.map_cons, List.map_cons, ih fun x hx => h x (List.mem_cons_of_mem _ hx)]
    have q := h a List.mem_cons_self
    rw [lmin_is q.1 q.2]
theorem max_dep {f : Int → PyData} {L : Int → List Int} : ∀ {g : List Int}, g ≠ [] → (∀ x ∈ g, (∃ m : Nat, (∀ k, m ≤ k → lawLv k (f x) = some (L x)) ∧ m + 1 ≤ (L x).length)) →
    ∃ m, (∀ k, m ≤ k → (g.map f).map (lawLv k) = (g.map L).map some) ∧ m + g.length ≤ (g.flatMap L).length
  | [], h, _ => absurd rfl h
  | [a], _, h => by
    obtain ⟨m, h1, h2⟩ := h a (by simp)
    exact ⟨m, fun k hk => by simp [h1 k hk], by simp; omega⟩
  | a :: b :: r, _, h => by
    obtain ⟨m, h1, h2⟩ := h a (by simp)
    obtain ⟨j, h3, h4⟩ := max_dep (f := f) (L := L) (g := b :: r) (by simp) fun x hx => h x (List.mem_cons_of_mem _ hx)
    refine ⟨max m j, fun k hk => ?_, ?_⟩
    · have q := h3 k (by omega)
      show lawLv k (f a) :: List.map (lawLv k) (List.map f (b :: r)) = some (L a) :: List.map some (List.map L (b :: r))
      rw [h1 k (by omega), q]
    · rw [List.flatMap_cons, List.length_append]
      simp only [List.length_cons] at h4 ⊢
      omega
theorem nodup_sub {a : List Int} {l : List Int} (h : a.Nodup) (hs : ∀ x ∈ a, x ∈ l) (hl : l.Nodup) : a.Perm (l.filter fun x => decide (x ∈ a)) := by
  refine (List.perm_ext_iff_of_nodup h (hl.filter _)).mpr fun x => ?_
  rw [List.mem_filter, decide_eq_true_iff]
  exact ⟨fun q => ⟨hs x q, q⟩, fun q => q.2⟩
theorem FI.join {n : Nat} {dom : List Int} {f : Int → PyData} {L : Int → List Int} {g : List Int} (hn : n < 40) (F : FI n dom f L) (G : GOk dom g) :
    FI n (joinD dom g) (joinF f g) (fun x => if x = g.headD 0 then g.flatMap L else L x) := by
  obtain ⟨a, b, r, rfl⟩ := head_tail G.two
  have hasc := G.asc
  rw [List.pairwise_cons] at hasc
  have hnd := asc_nodup F.asc
  have ha : a ∈ dom := G.mem a (by simp)
  have hat : a ∉ (b :: r) := fun z => by have := hasc.1 a z; omega
  -- the members of dom: tail, a, the rest
  have p1 : dom.Perm ((b :: r) ++ joinD dom (a :: b :: r)) := by
    have q := (List.filter_append_perm (fun x => decide (x ∈ (b :: r))) dom).symm
    have q2 := nodup_sub (asc_nodup hasc.2) (fun x hx => G.mem x (List.mem_cons_of_mem _ hx)) hnd
    refine q.trans (List.Perm.append q2.symm ?_)
    unfold joinD
    simp
  have haj : a ∈ joinD dom (a :: b :: r) := joinD_mem.mpr ⟨ha, hat⟩
  have p2 := List.perm_cons_erase haj
  have hjn : (joinD dom (a :: b :: r)).Nodup := hnd.filter _
  have hL : (dom.flatMap L).Perm ((joinD dom (a :: b :: r)).flatMap fun x => if x = a then (a :: b :: r).flatMap L else L x) := by
    have e1 : ((joinD dom (a :: b :: r)).erase a).flatMap (fun x => if x = a then (a :: b :: r).flatMap L else L x) = ((joinD dom (a :: b :: r)).erase a).flatMap L := by
      rw [List.flatMap_def, List.flatMap_def]
      refine congrArg List.flatten (List.map_congr_left fun x hx => ?_)
      rw [if_neg]
      intro z
      subst z
      exact absurd hx (hjn.not_mem_erase)
    refine (p1.flatMap_right L).trans ?_
    refine .trans ?_ (p2.flatMap_right _).symm
    rw [List.flatMap_cons, if_pos rfl, e1, List.flatMap_append, List.flatMap_cons]
    refine ((p2.flatMap_right L).append_left _).trans ?_
    rw [List.flatMap_cons]
    refine (List.perm_append_comm_assoc _ _ _).trans ?_
    rw [List.append_assoc, List.flatMap_cons, List.flatMap_cons, List.append_assoc, List.append_assoc]
  refine ⟨F.asc.sublist List.filter_sublist, fun x hx => ?_, hL.symm.trans F.pm⟩
  obtain ⟨hx1, hx2⟩ := joinD_mem.mp hx
  by_cases e : x = a
  · subst e
    have hh : (x :: b :: r).headD 0 = x := rfl
    simp only [hh, if_true]
    obtain ⟨m, h1, h2⟩ := max_dep (f := f) (L := L) (g := x :: b :: r) (by simp) fun y hy => (F.el y (G.mem y hy)).1
    have hmin : ((x :: b :: r).map L).map lmin = x :: b :: r := lmin_head fun y hy => (F.el y (G.mem y hy)).2
    have hlen : ((x :: b :: r).flatMap L).length ≤ n := by
      have q : ((x :: b :: r).flatMap L).length ≤ (((joinD dom (x :: b :: r)).flatMap fun y => if y = x then (x :: b :: r).flatMap L else L y)).length := by
        rw [List.flatMap_def (f := fun y => if y = x then (x :: b :: r).flatMap L else L y)]
        refine (sub_flat (List.mem_map.mpr ⟨x, haj, ?_⟩)).length_le
        rw [if_pos rfl]
      have q2 := (hL.symm.trans F.pm).length_eq
      rw [dom0_len] at q2
      omega
    refine ⟨⟨m + 1, fun k hk => ?_, ?_⟩, ?_, fun y hy => ?_⟩
    · obtain ⟨j, rfl⟩ : ∃ j, k = j + 1 := ⟨k - 1, by omega⟩
      unfold joinF
      rw [if_pos (show x = (x :: b :: r).headD 0 from rfl)]
      unfold lawLv
      rw [if_pos (by simp)]
      have e3 : lawLoop (lawLv j) ((x :: b :: r).map f) [] [] = some ((x :: b :: r).flatMap L, x :: b :: r) := by
        refine lawLoop_some.mpr ⟨(x :: b :: r).map L, h1 j (by omega), ?_⟩
        rw [hmin, List.nil_append, List.nil_append, List.flatMap_def]
      rw [e3]
      simp only
      rw [if_pos ⟨lt_le G.asc, by omega⟩]
    · simp only [List.length_cons] at h2
      omega
    · rw [List.flatMap_cons]
      exact List.mem_append.mpr (.inl (F.el x hx1).2.1)
    · obtain ⟨z, hz, hy2⟩ := List.mem_flatMap.mp hy
      have q := (F.el z (G.mem z hz)).2.2 y hy2
      rcases List.mem_cons.mp hz with z1 | z1
      · subst z1
        exact q
      · have := hasc.1 z z1
        omega
  · have hh : (a :: b :: r).headD 0 = a := rfl
    have e2 : joinF f (a :: b :: r) x = f x := by
      unfold joinF
      rw [if_neg (by rw [hh]; exact e)]
    simp only [hh, if_neg e, e2]
    exact F.el x hx1
/-- such a wood has as many leaves as it should -/
theorem FI.size {n : Nat} {dom : List Int} {f : Int → PyData} {L : Int → List Int} (F : FI n dom f L) (h1 : 1 ≤ n) (h2 : n ≤ 12) : lawSize (.tuple (dom.map f)) = n := by
  have hd : dom ≠ [] := fun z => by
    have := F.pm.length_eq
    rw [z, dom0_len] at this
    simp at this
    omega
  obtain ⟨m, h3, h4⟩ := max_dep (f := f) (L := L) hd fun x hx => (F.el x hx).1
  have hlen := F.pm.length_eq
  rw [dom0_len] at hlen
  have h5 : 0 < dom.length := List.length_pos_iff.mpr hd
  unfold lawSize
  simp only
  rw [if_neg (by simpa using hd)]
  have e3 : lawLoop (lawLv 11) (dom.map f) [] [] = some (dom.flatMap L, dom) := by
    refine lawLoop_some.mpr ⟨dom.map L, h3 11 (by omega), ?_⟩
    rw [lmin_head fun y hy => (F.el y hy).2, List.nil_append, List.nil_append, List.flatMap_def]
  rw [e3]
  simp only
  rw [if_pos ⟨lt_le F.asc, by unfold isRange; rw [hlen]; exact F.pm, by omega⟩, hlen]
theorem FI.psize {n : Nat} {dom : List Int} {f : Int → PyData} {L : Int → List Int} (F : FI n dom f L) (h1 : 1 ≤ n) (h2 : n ≤ 12) : progSize (.tuple (dom.map f)) = n :=
  (size_eq (by omega) (by omega)).mpr (F.size h1 h2)
end G93

set_option Elab.async false
set_option linter.all false
set_option maxRecDepth 100000
set_option maxHeartbeats 4000000
/-! plain laws: trees over a calendar, rows, and the joints that they make -/
namespace G93
open PySem
/-- born at d -/
def NB (born : List Int) (d : Nat) (x : Int) : Prop := ∃ k : Nat, x = k ∧ born[k]? = some (d : Int)
def tails (row : List (List Int)) : List Int := row.flatMap List.tail
structure RowOk (A : Int → Prop) (p : List Int) (row : List (List Int)) : Prop where
  grp : ∀ g ∈ row, g.Pairwise (· < ·) ∧ 2 ≤ g.length ∧ ∀ x ∈ g, A x
  nd : row.flatten.Nodup
  srt : row.Pairwise (fun a b => leG a b = true)
  sz : (row.map fun g => (g.length : Int)).Perm p
def TreeOk (born : List Int) : Nat → (Int → Prop) → List (List Int) → List (List (List Int)) → Prop
  | _, _, [], [] => True
  | d, A, p :: ps, row :: rows => RowOk (fun x => A x ∨ NB born d x) p row ∧ TreeOk born (d + 1) (fun x => (A x ∨ NB born d x) ∧ x ∉ tails row) ps rows
  | _, _, _, _ => False
theorem RowOk.congr {A B : Int → Prop} {p : List Int} {row : List (List Int)} (h : ∀ x, A x ↔ B x) (r : RowOk A p row) : RowOk B p row := by
  have e : A = B := funext fun x => propext (h x)
  rw [← e]; exact r
theorem TreeOk.congr {born : List Int} {d : Nat} {A B : Int → Prop} {ps : List (List Int)} {rows : List (List (List Int))} (h : ∀ x, A x ↔ B x) (r : TreeOk born d A ps rows) : TreeOk born d B ps rows := by
  have e : A = B := funext fun x => propext (h x)
  rw [← e]; exact r
theorem TreeOk.len {born : List Int} : ∀ {d : Nat} {A : Int → Prop} {ps : List (List Int)} {rows : List (List (List Int))}, TreeOk born d A ps rows → rows.length = ps.length
  | _, _, [], [], _ => rfl
  | _, _, _ :: _, _ :: _, h => by simp [TreeOk.len h.2]
  | _, _, [], _ :: _, h => h.elim
  | _, _, _ :: _, [], h => h.elim
def JoinsOk : List Int → List (List Int) → Prop
  | _, [] => True
  | dom, g :: gs => GOk dom g ∧ JoinsOk (joinD dom g) gs
def domAfter (dom : List Int) (gs : List (List Int)) : List Int := gs.foldl joinD dom
theorem domAfter_mem : ∀ {gs : List (List Int)} {dom : List Int} {x : Int}, x ∈ domAfter dom gs ↔ x ∈ dom ∧ x ∉ tails gs
  | [], dom, x => by simp [domAfter, tails]
  | g :: gs, dom, x => by
    show x ∈ domAfter (joinD dom g) gs ↔ _
    rw [domAfter_mem, joinD_mem]
    simp only [tails, List.flatMap_cons, List.mem_append, not_or]
    exact and_assoc
theorem JoinsOk.append : ∀ {gs hs : List (List Int)} {dom : List Int}, JoinsOk dom gs → JoinsOk (domAfter dom gs) hs → JoinsOk dom (gs ++ hs)
  | [], _, _, _, h => h
  | _ :: _, _, _, h1, h2 => ⟨h1.1, h1.2.append h2⟩
theorem row_joins : ∀ {row : List (List Int)} {dom : List Int}, (∀ g ∈ row, g.Pairwise (· < ·) ∧ 2 ≤ g.length ∧ ∀ x ∈ g, x ∈ dom) → row.flatten.Nodup → JoinsOk dom row
  | [], _, _, _ => trivial
  | g :: row, dom, h, nd => by
    rw [List.flatten_cons, List.nodup_append] at nd
    obtain ⟨a, b, c⟩ := h g List.mem_cons_self
    refine ⟨⟨a, b, c⟩, row_joins (fun k hk => ?_) nd.2.1⟩
    obtain ⟨a2, b2, c2⟩ := h k (List.mem_cons_of_mem _ hk)
    refine ⟨a2, b2, fun x hx => joinD_mem.mpr ⟨c2 x hx, fun z => ?_⟩⟩
    exact nd.2.2 x (List.mem_of_mem_tail z) x (List.mem_flatten.mpr ⟨k, hk, hx⟩) rfl
theorem NB.one {born : List Int} {d e : Nat} {x : Int} (h : NB born d x) (h2 : NB born e x) : d = e := by
  obtain ⟨k, rfl, a⟩ := h
  obtain ⟨j, e2, b⟩ := h2
  have : k = j := by omega
  subst this
  rw [a] at b
  cases b
  rfl
theorem mem_tails {row : List (List Int)} {x : Int} (h : x ∈ tails row) : ∃ g ∈ row, x ∈ g := by
  obtain ⟨g, hg, hx⟩ := List.mem_flatMap.mp h
  exact ⟨g, hg, List.mem_of_mem_tail hx⟩
theorem tree_joins {born : List Int} : ∀ {rows : List (List (List Int))} {ps : List (List Int)} {d : Nat} {A : Int → Prop} {dom : List Int}, TreeOk born d A ps rows → (∀ x, A x → x ∈ dom ∧ ∃ e, e < d ∧ NB born e x) →
    (∀ e, d ≤ e → ∀ x, NB born e x → x ∈ dom) → JoinsOk dom rows.flatten
  | [], _, _, _, _, _, _, _ => trivial
  | row :: rows, [], _, _, _, h, _, _ => h.elim
  | row :: rows, p :: ps, d, A, dom, h, hA, hU => by
    obtain ⟨h1, h2⟩ := h
    rw [List.flatten_cons]
    have hin : ∀ x, A x ∨ NB born d x → x ∈ dom := fun x q => q.elim (fun q => (hA x q).1) fun q => hU d (Nat.le_refl _) x q
    have hb : ∀ x, A x ∨ NB born d x → ∃ e, e < d + 1 ∧ NB born e x := fun x q => q.elim (fun q => let ⟨e, a, b⟩ := (hA x q).2; ⟨e, by omega, b⟩) fun q => ⟨d, by omega, q⟩
    refine (row_joins (fun g hg => ?_) h1.nd).append (tree_joins h2 (fun x q => ⟨domAfter_mem.mpr ⟨hin x q.1, q.2⟩, hb x q.1⟩) fun e he x q => domAfter_mem.mpr ⟨hU e (by omega) x q, fun z => ?_⟩)
    · obtain ⟨a, b, c⟩ := h1.grp g hg
      exact ⟨a, b, fun x hx => hin x (c x hx)⟩
    · obtain ⟨g, hg, hx⟩ := mem_tails z
      obtain ⟨e2, he2, q2⟩ := hb x ((h1.grp g hg).2.2 x hx)
      have := q.one q2
      omega
theorem tree_joins0 {born : List Int} {ps : List (List Int)} {rows : List (List (List Int))} (h : TreeOk born 0 (fun _ => False) ps rows) : JoinsOk (dom0 born.length) rows.flatten :=
  tree_joins h (fun x q => q.elim) fun e _ x q => by
    obtain ⟨k, rfl, hk⟩ := q
    have := (List.getElem?_eq_some_iff.mp hk).1
    exact mem_dom0.mpr ⟨by omega, by omega⟩
theorem forest_FI {n : Nat} (hn : n < 40) : ∀ {gs : List (List Int)} {s : List Int × (Int → PyData)} {L : Int → List Int}, JoinsOk s.1 gs → FI n s.1 s.2 L → ∃ L', FI n (forest s gs).1 (forest s gs).2 L'
  | [], s, L, _, F => ⟨L, F⟩
  | g :: gs, s, L, h, F => forest_FI hn (s := (joinD s.1 g, joinF s.2 g)) h.2 (F.join hn h.1)
theorem forest_size {born : List Int} {ps : List (List Int)} {rows : List (List (List Int))} (h : TreeOk born 0 (fun _ => False) ps rows) (h1 : 1 ≤ born.length) (h2 : born.length ≤ 12) :
    progSize (woodOf (forest (dom0 born.length, PyData.int) rows.flatten)) = born.length := by
  obtain ⟨L, F⟩ := forest_FI (n := born.length) (s := (dom0 born.length, PyData.int)) (by omega) (tree_joins0 h) (FI.init _)
  exact F.psize h1 h2
end G93

set_option Elab.async false
set_option linter.all false
set_option maxRecDepth 100000
set_option maxHeartbeats 4000000
/-! plain laws: data that the comparison's rule takes, and what it answers -/
namespace G93
open PySem PyProof.Rows
/-- ints, texts, tuples, so deep at most -/
def Bd (m : Nat) (d : PyData) : Prop := d.canLay0 = true ∧ d.depth ≤ m
theorem canAll {ds : List PyData} : PyData.canLayAll0 ds = true ↔ ∀ d ∈ ds, d.canLay0 = true := by
  induction ds with
  | nil => simp [PyData.canLayAll0]
  | cons d r ih => simp [PyData.canLayAll0, ih]
theorem depAll {m : Nat} {ds : List PyData} : PyData.depthAll ds ≤ m ↔ ∀ d ∈ ds, d.depth ≤ m := by
  induction ds with
  | nil => simp [PyData.depthAll]
  | cons d r ih => simp [PyData.depthAll, ih, Nat.max_le]
theorem Bd.int {m : Nat} (i : Int) : Bd m (.int i) := ⟨by simp [PyData.canLay0], by simp [PyData.depth]⟩
theorem Bd.tup {m : Nat} {ds : List PyData} : Bd (m + 1) (.tuple ds) ↔ ∀ d ∈ ds, Bd m d := by
  unfold Bd
  rw [PyData.canLay0, canAll, PyData.depth]
  constructor
  · rintro ⟨a, b⟩ d hd
    exact ⟨a d hd, depAll.mp (by omega) d hd⟩
  · intro h
    refine ⟨fun d hd => (h d hd).1, ?_⟩
    have := depAll.mpr fun d hd => (h d hd).2
    omega
theorem Bd.lst {m : Nat} {ds : List PyData} : Bd (m + 1) (.list ds) ↔ ∀ d ∈ ds, Bd m d := by
  unfold Bd
  rw [PyData.canLay0, canAll, PyData.depth]
  constructor
  · rintro ⟨a, b⟩ d hd
    exact ⟨a d hd, depAll.mp (by omega) d hd⟩
  · intro h
    refine ⟨fun d hd => (h d hd).1, ?_⟩
    have := depAll.mpr fun d hd => (h d hd).2
    omega
theorem Bd.mono {m k : Nat} {d : PyData} (h : Bd m d) (hk : m ≤ k) : Bd k d := ⟨h.1, Nat.le_trans h.2 hk⟩
theorem Bd.shaped {m : Nat} {d : PyData} (h : Bd m d) (hm : m ≤ 64) : SeqAt.shaped d = true := by
  unfold SeqAt.shaped
  rw [h.1, decide_eq_true (Nat.le_trans h.2 hm)]
  rfl
theorem Bd.dI {m : Nat} (ns : List Int) : Bd (m + 1) (dI ns) := Bd.tup.mpr fun d hd => by
  obtain ⟨n, _, rfl⟩ := List.mem_map.mp hd
  exact .int n
theorem Bd.ints {m : Nat} (ns : List Int) : Bd (m + 1) (.list (ns.map .int)) := Bd.lst.mpr fun d hd => by
  obtain ⟨n, _, rfl⟩ := List.mem_map.mp hd
  exact .int n
theorem eqv_same {m : Nat} {d : PyData} (h : Bd m d) : PyData.eqv d d = true := PySem.SeqAt.eqv_refl d h.1
theorem eqvAll_ints : ∀ a b : List Int, PyData.eqvAll (a.map .int) (b.map .int) = decide (a = b)
  | [], [] => by simp [PyData.eqvAll]
  | [], _ :: _ => by simp [PyData.eqvAll]
  | _ :: _, [] => by simp [PyData.eqvAll]
  | x :: a, y :: b => by
    rw [List.map_cons, List.map_cons, PyData.eqvAll, eqvAll_ints a b, PyData.eqv]
    by_cases h : x = y
    · by_cases h2 : a = b
      · simp [h, h2]
      · simp [h, h2]
    · simp [h]
theorem eqv_ints (a b : List Int) : PyData.eqv (.list (a.map .int)) (.list (b.map .int)) = decide (a = b) := by
  rw [PyData.eqv, eqvAll_ints]
theorem eqv_nil (ds : List PyData) : PyData.eqv (.tuple ds) (.tuple []) = decide (ds = []) := by
  rw [PyData.eqv]
  cases ds <;> simp [PyData.eqvAll]
/-- a list of ints as data -/
theorem dp_lst {K : PySem.W.Frag} {H : L2.Hp} {a : Addr} {ns : List Int} (h : L2.SqL K H a (ns.map L2.V.int)) : L2.Dp K H (.ref a) (.list (ns.map .int)) := .lst h (Tps.dps _ _ (Tps.ints ns))
theorem dp_tup {K : PySem.W.Frag} {H : L2.Hp} {a : Addr} {ns : List Int} (h : L2.SqT K H a (ns.map L2.V.int)) : L2.Dp K H (.ref a) (dI ns) := .tup h (Tps.dps _ _ (Tps.ints ns))
end G93

set_option Elab.async false
set_option linter.all false
set_option maxRecDepth 100000
set_option maxHeartbeats 4000000
/-! numbers, patterns, calendars -/
namespace G93
open PySem PySem.Spec PyProof.Rows L2
local macro_rules | `(tactic| trivial) => `(tactic| (repeat (first | refine ⟨_, rfl, ?_⟩ | refine ⟨_, _, rfl, rfl, ?_⟩ | refine .inl ⟨_, rfl, ?_⟩ | refine ⟨_, _, rfl, ?_⟩)))
def isInt : PyData → Bool
  | .int _ => true
  | _ => false
def isTup : PyData → Bool
  | .tuple _ => true
  | _ => false
theorem isi_int {K : PySem.W.Frag} {H : Hp} {v : V} {d : PyData} (t : Tp H v d) : ∃ ty, TyX K H v ty ∧ PySem.W.kitOne K ty (.type "int") = some (isInt d) := by
  cases t with
  | int i => exact ⟨_, .base (.int i), kit_ty (by first | exact (by decide +kernel : kitB "int" "int" = some true) | exact (by decide +kernel : kitB "str" "int" = some false) | exact (by decide +kernel : kitB "tuple" "int" = some false) | exact (by decide +kernel : kitB "int" "tuple" = some false) | exact (by decide +kernel : kitB "str" "tuple" = some false) | exact (by decide +kernel : kitB "tuple" "tuple" = some true) | decide +kernel)⟩
  | str x => exact ⟨_, .base (.str x), kit_ty (by first | exact (by decide +kernel : kitB "int" "int" = some true) | exact (by decide +kernel : kitB "str" "int" = some false) | exact (by decide +kernel : kitB "tuple" "int" = some false) | exact (by decide +kernel : kitB "int" "tuple" = some false) | exact (by decide +kernel : kitB "str" "tuple" = some false) | exact (by decide +kernel : kitB "tuple" "tuple" = some true) | decide +kernel)⟩
  | tup h _ _ => exact ⟨_, .base (.tup h), kit_ty (by first | exact (by decide +kernel : kitB "int" "int" = some true) | exact (by decide +kernel : kitB "str" "int" = some false) | exact (by decide +kernel : kitB "tuple" "int" = some false) | exact (by decide +kernel : kitB "int" "tuple" = some false) | exact (by decide +kernel : kitB "str" "tuple" = some false) | exact (by decide +kernel : kitB "tuple" "tuple" = some true) | decide +kernel)⟩
theorem isi_bool {K : PySem.W.Frag} {H : Hp} {v : V} {d : PyData} (t : Tp H v d) : ∃ ty, TyX K H v ty ∧ PySem.W.kitOne K ty (.type "bool") = some false := by
  cases t with
  | int i => exact ⟨_, .base (.int i), kit_ty (by first | exact (by decide +kernel : kitB "int" "int" = some true) | exact (by decide +kernel : kitB "str" "int" = some false) | exact (by decide +kernel : kitB "tuple" "int" = some false) | exact (by decide +kernel : kitB "int" "tuple" = some false) | exact (by decide +kernel : kitB "str" "tuple" = some false) | exact (by decide +kernel : kitB "tuple" "tuple" = some true) | decide +kernel)⟩
  | str x => exact ⟨_, .base (.str x), kit_ty (by first | exact (by decide +kernel : kitB "int" "int" = some true) | exact (by decide +kernel : kitB "str" "int" = some false) | exact (by decide +kernel : kitB "tuple" "int" = some false) | exact (by decide +kernel : kitB "int" "tuple" = some false) | exact (by decide +kernel : kitB "str" "tuple" = some false) | exact (by decide +kernel : kitB "tuple" "tuple" = some true) | decide +kernel)⟩
  | tup h _ _ => exact ⟨_, .base (.tup h), kit_ty (by first | exact (by decide +kernel : kitB "int" "int" = some true) | exact (by decide +kernel : kitB "str" "int" = some false) | exact (by decide +kernel : kitB "tuple" "int" = some false) | exact (by decide +kernel : kitB "int" "tuple" = some false) | exact (by decide +kernel : kitB "str" "tuple" = some false) | exact (by decide +kernel : kitB "tuple" "tuple" = some true) | decide +kernel)⟩
theorem isi_tup {K : PySem.W.Frag} {H : Hp} {v : V} {d : PyData} (t : Tp H v d) : ∃ ty, TyX K H v ty ∧ PySem.W.kitOne K ty (.type "tuple") = some (isTup d) := by
  cases t with
  | int i => exact ⟨_, .base (.int i), kit_ty (by first | exact (by decide +kernel : kitB "int" "int" = some true) | exact (by decide +kernel : kitB "str" "int" = some false) | exact (by decide +kernel : kitB "tuple" "int" = some false) | exact (by decide +kernel : kitB "int" "tuple" = some false) | exact (by decide +kernel : kitB "str" "tuple" = some false) | exact (by decide +kernel : kitB "tuple" "tuple" = some true) | decide +kernel)⟩
  | str x => exact ⟨_, .base (.str x), kit_ty (by first | exact (by decide +kernel : kitB "int" "int" = some true) | exact (by decide +kernel : kitB "str" "int" = some false) | exact (by decide +kernel : kitB "tuple" "int" = some false) | exact (by decide +kernel : kitB "int" "tuple" = some false) | exact (by decide +kernel : kitB "str" "tuple" = some false) | exact (by decide +kernel : kitB "tuple" "tuple" = some true) | decide +kernel)⟩
  | tup h _ _ => exact ⟨_, .base (.tup h), kit_ty (by first | exact (by decide +kernel : kitB "int" "int" = some true) | exact (by decide +kernel : kitB "str" "int" = some false) | exact (by decide +kernel : kitB "tuple" "int" = some false) | exact (by decide +kernel : kitB "int" "tuple" = some false) | exact (by decide +kernel : kitB "str" "tuple" = some false) | exact (by decide +kernel : kitB "tuple" "tuple" = some true) | decide +kernel)⟩
abbrev s_is_number : Stmt := top 9
theorem sc_is_number : FnScope ["thing"] ["thing"] (defScope s_is_number) := ⟨rfl, rfl, rfl, by decide +kernel, rfl, by decide +kernel, by decide +kernel⟩
abbrev s_is_pattern : Stmt := top 26
theorem sc_is_pattern : FnScope ["thing", "size", "at"] ["thing"] (defScope s_is_pattern) := ⟨rfl, rfl, rfl, by decide +kernel, rfl, by decide +kernel, by decide +kernel⟩
def spNum : Sp := fun vs H Q _ => ∃ v d, vs = [v] ∧ Tp H v d ∧ Q (.bl (isInt d)) H
def spPat : Sp := fun vs H Q _ => ∃ (a : Addr) (p : List Int), vs = [.ref a] ∧ H a = some (.tup (p.map V.int)) ∧ p.length ≤ 10000 ∧ (∀ x ∈ p, 2 ≤ x) ∧ p.Pairwise (· ≥ ·) ∧ ∀ H', Same H H' → Q (.bl true) H'
/-! ### calendars -/
def nowAt (born : List Int) (days : List (List Int)) : Nat → Int
  | 0 => 0
  | d + 1 => nowAt born days d + (born.count (d : Int) : Nat) - (days.getD d []).sum + (days.getD d []).length
structure PatOk (p : List Int) : Prop where
  ne : p ≠ []
  two : ∀ x ∈ p, 2 ≤ x
  desc : p.Pairwise (· ≥ ·)
structure CalOk (born : List Int) (days : List (List Int)) : Prop where
  lo : 1 ≤ born.length
  hi : born.length ≤ 12
  dl : days.length ≤ 11
  pat : ∀ p ∈ days, PatOk p ∧ p.length ≤ 100
  bd : ∀ b ∈ born, 0 ≤ b ∧ b ≤ days.length
  cnt : ∀ d, d < days.length → (days.getD d []).sum ≤ nowAt born days d + (born.count (d : Int) : Nat)
/-- the calendar's parts as they lie -/
structure CalAt (H : Hp) (vb vd : Addr) (born : List Int) (days : List (List Int)) : Prop where
  b : TupF H vb (born.map V.int)
  d : Tp H (.ref vd) (.tuple (days.map dI))
theorem CalAt.mono {H H' : Hp} {vb vd : Addr} {born : List Int} {days : List (List Int)} (c : CalAt H vb vd born days) (e : TS H H') : CalAt H' vb vd born days := ⟨let ⟨o, h, h2⟩ := c.b; ⟨o, e.f _ _ _ h, h2⟩, c.d.mono e⟩
theorem dI_at {H : Hp} {v : V} {p : List Int} (t : Tp H v (dI p)) : ∃ a, v = .ref a ∧ H a = some (.tup (p.map V.int)) := by
  obtain ⟨a, xs, rfl, h, ts⟩ := t.tuple
  refine ⟨a, rfl, ?_⟩
  rw [h]
  refine congrArg (fun z => some (HO.tup z)) (List.ext_getElem? fun i => ?_)
  rw [List.getElem?_map]
  by_cases hi : i < p.length
  · have q : (p.map PyData.int)[i]? = some (.int p[i]) := by rw [List.getElem?_map, List.getElem?_eq_getElem hi]; rfl
    obtain ⟨x, hx, tx⟩ := ts.get' q
    rw [hx, List.getElem?_eq_getElem hi]
    cases tx
    rfl
  · rw [List.getElem?_eq_none (by have := ts.len; simp at this; omega), List.getElem?_eq_none (by omega)]
    rfl
abbrev s_counts_of : Stmt := top 31
theorem sc_counts_of : FnScope ["born", "days", "found", "now", "day", "pattern"] ["born", "days"] (defScope s_counts_of) := ⟨rfl, rfl, rfl, by decide +kernel, rfl, by decide +kernel, by decide +kernel⟩
def spCounts (K : PySem.W.Frag) : Sp := fun vs H Q _ => ∃ (vb vd : Addr) (born : List Int) (days : List (List Int)), vs = [.ref vb, .ref vd] ∧ CalAt H vb vd born days ∧ days.length ≤ 100 ∧
  ∀ (r : Addr) (ns : List Int) (H' : Hp), Same H H' → H' r = some (.lst (ns.map V.int)) → (∀ d, d < days.length → ns[d]? = some (nowAt born days d + (born.count (d : Int) : Nat))) → Q (.ref r) H'
section
variable {P : Program} {w : World} {K : PySem.W.Frag} {mg : Str → Option Value} {base : Heap} {f : Addr} {fd : FuncData}
theorem ok_num (F : Fun K "is_number" "is_number" s_is_number f fd) (B : Bi mg) : FnOk P w K mg base CX0 1 f fd ["thing"] spNum := by
  refine F.ok sc_is_number (fun vs H Q E h => ?_) (fun cdv A outer s H vs Q E hr h => ?_)
  · obtain ⟨a, t, rfl, _⟩ := h
    rfl
  obtain ⟨v, d, rfl, t, q⟩ := h
  refine ⟨_, (pss_one (ps_ret (pe_and (pe_callB call_isi (by rfl) B.isinstance_ (by decide +kernel) (pa_cons (pv 0) (pa_cons (pe_bltn (v := .ty "int") (by rfl) B.int_ (by decide +kernel) rfl) pa_nil))) (pe_one (pe_not (pe_callB call_isi (by rfl) B.isinstance_ (by decide +kernel) (pa_cons (pv 0) (pa_cons (pe_bltn (v := .ty "bool") (by rfl) B.bool_ (by decide +kernel) rfl) pa_nil))))))))
   , ?_⟩
  trivial
  obtain ⟨ty, tx, hk⟩ := isi_int (K := K) t
  refine ⟨_, _, _, _, _, rfl, .ty _, tx, hk, ?_⟩
  trivial
  cases e : isInt d with
  | false =>
    rw [e] at q
    exact q
  | true =>
    rw [e] at q
    trivial
    obtain ⟨ty, tx, hk⟩ := isi_bool (K := K) t
    refine ⟨_, _, _, _, _, rfl, .ty _, tx, hk, ?_⟩
    trivial
    exact q
theorem ok_pat (F : Fun K "is_pattern" "is_pattern" s_is_pattern f fd) (B : Bi mg) (C_is_number : Cal P w K mg base CX0 1 "is_number" ["thing"] spNum) : FnOk P w K mg base CX0 2 f fd ["thing"] spPat := by
  refine F.ok sc_is_pattern (fun vs H Q E h => ?_) (fun cdv A outer s H vs Q E hr h => ?_)
  · obtain ⟨a, p, rfl, _⟩ := h
    rfl
  obtain ⟨a, p, rfl, hT, hl, h2, hd, q⟩ := h
  refine ⟨_, (pss_cons (ps_if (PW.pt (pw_or (pt_not (pt_val (pe_callB call_isi (by rfl) B.isinstance_ (by decide +kernel) (pa_cons (pv 0) (pa_cons (pe_bltn (v := .ty "tuple") (by rfl) B.tuple_ (by decide +kernel) rfl) pa_nil))))) (pw_or1 (pt_not (pt_val (pe_callB (cr_all rfl) (by rfl) B.all_ (by decide +kernel) (pa_cons (pe_lc (own := [("size", 1)]) rfl sc_is_pattern.nd (pi_tup (pv 0)) (blkOk_by (own := [("size", 1)]) (N := ["thing", "size", "at"]) (sc := defScope s_is_pattern) (by decide +kernel)) (fun _ _ _ _ _ => (pg_name (i := 1) sc_is_pattern.nd rfl (Or.inl rfl))) (fun _ _ _ _ _ => pts_nil) (fun _ _ _ _ _ => (pe_and (pe_callC C_is_number (hr.mono (by decide)) (by rfl) pass0 (pa_cons (pv 1) pa_nil)) (pe_one (pe_cmpR op_ge (pv 1) (pe_glob (v := .int 2) (by rfl) B.c_LEAST_GROUP ⟨_, rfl⟩) (nomark _)))))) pa_nil)))))))
        (pss_one (ps_ret pe_bl))
        pss_nil)
      (pss_one (ps_ret (pe_callB (cr_all rfl) (by rfl) B.all_ (by decide +kernel) (pa_cons (pe_lc (own := [("at", 2)]) rfl sc_is_pattern.nd (pi_range2 (by rfl) B.range_ (pa_cons pe_int (pa_cons (pe_callB call_len_seq (by rfl) B.len_ (by decide +kernel) (pa_cons (pv 0) pa_nil)) pa_nil))) (blkOk_by (own := [("at", 2)]) (N := ["thing", "size", "at"]) (sc := defScope s_is_pattern) (by decide +kernel)) (fun _ _ _ _ _ => (pg_name (i := 2) sc_is_pattern.nd rfl (Or.inl rfl))) (fun _ _ _ _ _ => pts_nil) (fun _ _ _ _ _ => (pe_cmpR op_ge (pe_ix (ix_tupK K rfl) (pv 0) (pe_op op_sub (pv 2) pe_int) (fun _ _ => rfl)) (pe_ix (ix_tupK K rfl) (pv 0) (pv 2) (fun _ _ => rfl)) (nomark _)))) pa_nil)))))
   , ?_⟩
  trivial
  obtain ⟨ty, tx, hk⟩ := isi_tup (K := K) (Tp.dI hT)
  refine ⟨_, _, _, _, _, rfl, .ty _, tx, hk, ?_⟩
  trivial
  have hz : (p.map V.int).length ≤ sizeLine := by rw [List.length_map]; exact small_ hl
  refine ⟨⟨_, .of hT⟩, fun D hD => lcm_tup (xs := p.map V.int) (fun _ => some (V.bl true)) hD (.of hT) hz (fun i x H1 hx e Y N y n => ?_) (fun H1 e hD1 => ?_)⟩
  · rw [List.getElem?_map] at hx
    obtain ⟨k, hk, rfl⟩ := Option.map_eq_some_iff.mp hx
    have hk2 := h2 k (List.mem_of_getElem? hk)
    refine ⟨rfl, ?_⟩
    trivial
    refine ⟨_, _, rfl, .int k, ?_⟩
    trivial
    refine y _ _ (L2.Same.refl _) ?_
    show some (V.bl true) = some (V.bl (decide (2 ≤ k)))
    rw [decide_eq_true hk2]
  · obtain ⟨bs, e1, e2⟩ := map_bl (l := p.map V.int) (f := fun _ => some (V.bl true)) fun _ _ => rfl
    refine ⟨_, bs, rfl, SqL.of (by rw [hD1, e1]), ?_⟩
    rw [e2]
    trivial
    refine ⟨a, _, rfl, .inr (.of (e _ _ hT)), ?_⟩
    refine ⟨_, _, rfl, ⟨by decide, by decide, by omega, by rw [List.length_map]; omega⟩, fun D2 hD2 => ?_⟩
    refine lcm_range (n := ((((p.map V.int).length : Nat) : Int) - 1).toNat) (fun _ => some (V.bl true)) hD2 (by omega) (fun i H2 hi e3 Y N y n => ?_) (fun H2 e3 hD3 => ?_)
    · refine ⟨rfl, ?_⟩
      rw [List.length_map] at hi
      trivial
      obtain ⟨u, hu1, hu2⟩ := atI_ints (p := p) (k := 1 + (i : Int) - 1) (by omega) (by omega)
      obtain ⟨v, hv1, hv2⟩ := atI_ints (p := p) (k := 1 + (i : Int)) (by omega) (by omega)
      refine ⟨a, _, _, _, rfl, rfl, .of (e3 _ _ (e _ _ hT)), hu2, ?_⟩
      trivial
      refine ⟨a, _, _, _, rfl, rfl, .of (e3 _ _ (e _ _ hT)), hv2, ?_⟩
      trivial
      refine y _ _ (L2.Same.refl _) ?_
      have hle : v ≤ u := by
        have e4 : (1 + (i : Int)).toNat = i + 1 := by omega
        have e5 : (1 + (i : Int) - 1).toNat = i := by omega
        rw [e4] at hv1
        rw [e5] at hu1
        obtain ⟨l1, l2⟩ := List.getElem?_eq_some_iff.mp hu1
        obtain ⟨l3, l4⟩ := List.getElem?_eq_some_iff.mp hv1
        have := List.pairwise_iff_getElem.mp hd i (i + 1) l1 l3 (by omega)
        rw [l2, l4] at this
        exact this
      show some (V.bl true) = some (V.bl (decide (v ≤ u)))
      rw [decide_eq_true hle]
    · obtain ⟨cs, e4, e5⟩ := map_bl (l := List.range ((((p.map V.int).length : Nat) : Int) - 1).toNat) (f := fun _ => some (V.bl true)) fun _ _ => rfl
      refine ⟨_, cs, rfl, SqL.of (by rw [hD3, e4]), ?_⟩
      rw [e5]
      exact q _ (e.trans e3)
theorem ok_counts (F : Fun K "counts_of" "counts_of" s_counts_of f fd) (B : Bi mg) : FnOk P w K mg base CX0 1 f fd ["born", "days"] (spCounts K) := by
  refine F.ok sc_counts_of (fun vs H Q E h => ?_) (fun cdv A outer s H vs Q E hr h => ?_)
  · obtain ⟨a, b, _, _, rfl, _⟩ := h
    rfl
  obtain ⟨vb, vd, born, days, rfl, hC, hl, q⟩ := h
  obtain ⟨xs, hT, ts⟩ := hC.d.tup_ref
  refine ⟨_, (pss_cons (ps_par (i := 2) (j := 3) rfl sc_counts_of.nd rfl rfl (by decide) rfl rfl (pa_cons (pe_lst pa_nil) (pa_cons pe_int pa_nil)) (by rfl))
      (pss_cons (ps_for PassesOwn.never rfl (pi_enumT (by rfl) B.enumerate_ (pa_cons (pv 1) pa_nil)) (pg_tup rfl (pgs_cons (pg_name (i := 4) sc_counts_of.nd rfl (Or.inl rfl)) (pgs_cons (pg_name (i := 5) sc_counts_of.nd rfl (Or.inl rfl)) pgs_nil)))
        (pss_cons (ps_set (i := 3) sc_counts_of.nd rfl (Or.inl rfl) (pe_op op_add (pv 3) (pe_bmT PySem.F.plainAttrs_tuple PySem.F.slot_tuple_count PySem.F.type_tuple_count mt_tcount (pv 0) (pa_cons (pv 4) pa_nil))))
        (pss_cons (ps_expr (pe_bm PySem.F.plainAttrs_list PySem.F.slot_list_append PySem.F.type_list_append mt_append (pv 2) (pa_cons (pv 3) pa_nil)))
        (pss_one (ps_set (i := 3) sc_counts_of.nd rfl (Or.inl rfl) (pe_op op_add (pe_op op_sub (pv 3) (pe_callB (cr_sumS rfl) (by rfl) B.sum_ (by decide +kernel) (pa_cons (pv 5) pa_nil))) (pe_callB call_len_seq (by rfl) B.len_ (by decide +kernel) (pa_cons (pv 5) pa_nil))))))))
      (pss_one (ps_ret (pe_op op_cat (pv 2) (pe_lst (pa_cons (pe_op op_add (pv 3) (pe_bmT PySem.F.plainAttrs_tuple PySem.F.slot_tuple_count PySem.F.type_tuple_count mt_tcount (pv 0) (pa_cons (pe_callB call_len_seq (by rfl) B.len_ (by decide +kernel) (pa_cons (pv 1) pa_nil)) pa_nil))) pa_nil)))))))
   , ?_⟩
  trivial
  refine ⟨(by show 0 ≤ sizeLine; decide), fun fl hfl => ?_⟩
  trivial
  refine ⟨_, _, rfl, .of (by rw [upd_ne (ne_of_none hT hfl)]; exact hT), ?_⟩
  have cnt : ∀ d : Nat, d < days.length → (∀ x, xs[d]? = some x → ∃ (a : Addr) (p : List Int), days[d]? = some p ∧ x = .ref a ∧ H a = some (.tup (p.map V.int))) := fun d hd x hx => by
    obtain ⟨e, he, te⟩ := ts.get hx
    obtain ⟨p, hp, rfl⟩ := get_map he
    obtain ⟨a, rfl, ha⟩ := dI_at te
    exact ⟨a, p, hp, rfl, ha⟩
  have hlen : xs.length = days.length := by rw [ts.len, List.length_map]
  refine for_enumT (xs := xs) (fun i σ H1 => ∃ (u v : Option V) (ns : List Int), σ = [some (.ref vb), some (.ref vd), some (.ref fl), some (.int (nowAt born days i)), u, v] ∧ Same H H1 ∧ H1 fl = some (.lst (ns.map V.int)) ∧ ns.length = i ∧
    ∀ d, d < i → ns[d]? = some (nowAt born days d + (born.count (d : Int) : Nat))) ⟨_, _, [], rfl, L2.Same.of_new hfl _, upd_same, rfl, fun d hd => by omega⟩ (fun i σ H1 hi h => ?_) (fun i x T σ H1 hx h hT1 => ?_) (fun σ H1 h => ?_)
  · obtain ⟨u, v, ns, rfl, e, _⟩ := h
    exact .of (e _ _ hT)
  · obtain ⟨u, v, ns, rfl, e, hf, hn, hc⟩ := h
    have hi : i < days.length := by rw [← hlen]; exact (List.getElem?_eq_some_iff.mp hx).1
    obtain ⟨a, p, hp, rfl, ha⟩ := cnt i hi _ hx
    refine ⟨T, _, rfl, .of upd_same, rfl, ?_⟩
    trivial
    have e2 : Same H (upd H1 T (.tup [.int (i : Nat), .ref a])) := e.put hT1 _
    have hf2 : upd H1 T (.tup [.int (i : Nat), .ref a]) fl = some (.lst (ns.map V.int)) := by rw [upd_ne (ne_of_none hf hT1)]; exact hf
    have b2 := (hC.mono e2.ts).b
    refine ⟨⟨_, _, rfl, b2⟩, ?_⟩
    trivial
    refine ⟨vb, born, _, rfl, rfl, b2.sqT, ?_⟩
    trivial
    refine ⟨.inl ⟨rfl, _, .of hf2⟩, ?_⟩
    trivial
    refine ⟨fl, _, _, rfl, rfl, hf2, by rw [List.length_map]; exact small_lt (by omega), ?_⟩
    trivial
    have e3 : Same H (upd (upd H1 T (.tup [.int (i : Nat), .ref a])) fl (.lst (ns.map V.int ++ [.int (nowAt born days i + (born.count (i : Int) : Nat))]))) := e2.set hfl _
    refine ⟨a, p, rfl, .of (e3 _ _ ha), ?_⟩
    trivial
    refine ⟨a, _, rfl, .inr (.of (e3 _ _ ha)), ?_⟩
    trivial
    refine ⟨some (.int (i : Nat)), some (.ref a), ns ++ [nowAt born days i + (born.count (i : Int) : Nat)], ?_, e3, ?_, by rw [List.length_append, hn]; rfl, fun d hd => ?_⟩
    · have eg : days.getD i [] = p := by rw [List.getD_eq_getElem?_getD, hp]; rfl
      have hnow : nowAt born days (i + 1) = nowAt born days i + (born.count (i : Int) : Nat) - p.sum + ((p.map V.int).length : Nat) := by
        have z : nowAt born days (i + 1) = nowAt born days i + (born.count (i : Int) : Nat) - (days.getD i []).sum + (days.getD i []).length := rfl
        rw [List.length_map, z, eg]
      rw [hnow]
      rfl
    · rw [upd_same, List.map_append]
      rfl
    · by_cases hdi : d < i
      · rw [List.getElem?_append_left (by omega)]
        exact hc d hdi
      · have : d = i := by omega
        subst this
        rw [← hn, List.getElem?_append_right (Nat.le_refl _), Nat.sub_self]
        rfl
  · obtain ⟨u, v, ns, rfl, e, hf, hn, hc⟩ := h
    trivial
    have b2 := (hC.mono e.ts).b
    refine ⟨⟨_, _, rfl, b2⟩, ?_⟩
    trivial
    refine ⟨vd, _, rfl, .inr (.of (e _ _ hT)), ?_⟩
    refine ⟨vb, born, _, rfl, rfl, b2.sqT, ?_⟩
    trivial
    refine ⟨(by show 1 ≤ sizeLine; decide), fun t ht => ?_⟩
    refine ⟨fl, t, _, _, rfl, rfl, (by rw [upd_ne (ne_of_none hf ht)]; exact hf), upd_same, ?_, fun r hr2 => ?_⟩
    · rw [List.length_map]
      exact small_ (by simp; omega)
    · refine q r (ns ++ [nowAt born days xs.length + (born.count (xs.length : Int) : Nat)]) _ ((e.put ht _).put hr2 _) ?_ fun d hd => ?_
      · rw [upd_same, List.map_append]
        rfl
      · rw [List.getElem?_append_left (by omega)]
        exact hc d (by omega)
end
end G93

set_option Elab.async false
set_option linter.all false
set_option maxRecDepth 100000
set_option maxHeartbeats 4000000
/-! the calendar -/
namespace G93
open PySem PySem.Spec PyProof.Rows L2
local macro_rules | `(tactic| trivial) => `(tactic| (repeat (first | refine ⟨_, rfl, ?_⟩ | refine ⟨_, _, rfl, rfl, ?_⟩ | refine .inl ⟨_, rfl, ?_⟩ | refine ⟨_, _, rfl, ?_⟩)))
abbrev s_init : Stmt := inClass (top 30) 0
theorem sc_init : FnScope ["self", "born", "days"] ["self", "born", "days"] (defScope s_init) := ⟨rfl, rfl, rfl, by decide +kernel, rfl, by decide +kernel, by decide +kernel⟩
abbrev s_made_calendar : Stmt := top 32
theorem sc_made_calendar : FnScope ["born", "days", "at", "pattern", "leaf", "day", "counts"] ["born", "days"] (defScope s_made_calendar) := ⟨rfl, rfl, rfl, by decide +kernel, rfl, by decide +kernel, by decide +kernel⟩
theorem nbd : ¬ (("born" : Str) = "days") := by decide +kernel
def calF (vb vd : Addr) : List (Str × V) := putF "days" (.ref vd) (putF "born" (.ref vb) [])
theorem calF_born (vb vd : Addr) : (calF vb vd).lookup ("born" : Str) = some (.ref vb) := by
  unfold calF
  rw [lookup_putF, if_neg nbd, lookup_putF, if_pos rfl]
theorem calF_days (vb vd : Addr) : (calF vb vd).lookup ("days" : Str) = some (.ref vd) := by
  unfold calF
  rw [lookup_putF, if_pos rfl]
structure CalT (K : PySem.W.Frag) (mg : Str → Option Value) (C : Addr) : Prop where
  clC : Cls K C
  nB : NoAttr K C "born"
  nD : NoAttr K C "days"
  mgC : mg "Calendar" = some (.ref C)
/-- a calendar stands at c -/
def CalIns (C : Addr) (H : Hp) (c vb vd : Addr) : Prop := ∃ dx, H c = some (.ins C dx (calF vb vd))
def spInit (C : Addr) : Sp := fun vs H Q _ => ∃ (p dx vb vd : Addr), vs = [.ref p, .ref vb, .ref vd] ∧ H p = some (.ins C dx []) ∧ ∀ H', CalIns C H' p vb vd → (∀ b o, H b = some o → b ≠ p → H' b = some o) → Q .non H'
def spMade (C : Addr) : Sp := fun vs H Q _ => ∃ (vb vd : Addr) (born : List Int) (days : List (List Int)), vs = [.ref vb, .ref vd] ∧ CalAt H vb vd born days ∧ CalOk born days ∧ ∀ c H', Same H H' → CalIns C H' c vb vd → Q (.ref c) H'
section
variable {P : Program} {w : World} {K : PySem.W.Frag} {mg : Str → Option Value} {base : Heap} {f : Addr} {fd : FuncData}
theorem ok_init {C : Addr} (F : Fun K "__init__" "Calendar.__init__" s_init f fd) (T : CalT K mg C) : FnOk P w K mg base CX0 1 f fd ["self", "born", "days"] (spInit C) := by
  refine F.ok sc_init (fun vs H Q E h => ?_) (fun cdv A outer s H vs Q E hr h => ?_)
  · obtain ⟨p, dx, vb, vd, rfl, _⟩ := h
    rfl
  obtain ⟨p, dx, vb, vd, rfl, hp, q⟩ := h
  refine ⟨_, (pss_cons (ps_fld (pv 0) (pv 1) rfl)
      (pss_one (ps_fld (pv 0) (pv 2) rfl)))
   , ?_⟩
  refine ⟨_, rfl, _, rfl, p, C, dx, [], rfl, hp, T.clC, T.nB, (by show 0 < 1000; decide), ?_⟩
  refine ⟨_, rfl, _, rfl, p, C, dx, _, rfl, upd_same, T.clC, T.nD, (by show 1 < 1000; decide), ?_⟩
  exact q _ ⟨dx, upd_same⟩ fun b o e hb => by rw [upd_ne hb, upd_ne hb]; exact e
theorem ok_made {C fC : Addr} {fdC : FuncData} (F : Fun K "made_calendar" "made_calendar" s_made_calendar f fd) (B : Bi mg) (T : CalT K mg C) (MC : Mk K C fC) (GC : FnOk P w K mg base CX0 1 fC fdC ["self", "born", "days"] (spInit C)) (bC : Binds K fdC ["self", "born", "days"] [])
    (C_is_number : Cal P w K mg base CX0 1 "is_number" ["thing"] spNum) (C_is_pattern : Cal P w K mg base CX0 2 "is_pattern" ["thing"] spPat) (C_counts_of : Cal P w K mg base CX0 1 "counts_of" ["born", "days"] (spCounts K)) :
    FnOk P w K mg base CX0 3 f fd ["born", "days"] (spMade C) := by
  refine F.ok sc_made_calendar (fun vs H Q E h => ?_) (fun cdv A outer s H vs Q E hr h => ?_)
  · obtain ⟨vb, vd, _, _, rfl, _⟩ := h
    rfl
  obtain ⟨vb, vd, born, days, rfl, hC, hO, q⟩ := h
  obtain ⟨xs, hT, ts⟩ := hC.d.tup_ref
  have hB := hC.b
  refine ⟨_, (pss_cons (ps_if (pt_not (pt_chain op_le op_le pe_int (pe_callB call_len_seq (by rfl) B.len_ (by decide +kernel) (pa_cons (pv 0) pa_nil)) (pe_glob (v := .int 12) (by rfl) B.c_MOST_LEAVES_calendars ⟨_, rfl⟩)))
        (pss_one ps_never)
        pss_nil)
      (pss_cons (ps_if (pt_cmpR op_gt (pe_callB call_len_seq (by rfl) B.len_ (by decide +kernel) (pa_cons (pv 1) pa_nil)) (pe_glob (v := .int 11) (by rfl) B.c_MOST_DAYS ⟨_, rfl⟩) (nomark _))
        (pss_one ps_never)
        pss_nil)
      (pss_cons (ps_for PassesOwn.never rfl (pi_enumT (by rfl) B.enumerate_ (pa_cons (pv 1) pa_nil)) (pg_tup rfl (pgs_cons (pg_name (i := 2) sc_made_calendar.nd rfl (Or.inl rfl)) (pgs_cons (pg_name (i := 3) sc_made_calendar.nd rfl (Or.inl rfl)) pgs_nil)))
        (pss_one (ps_if (PW.pt (pw_or (pt_not (pt_val (pe_callC C_is_pattern (hr.mono (by decide)) (by rfl) pass0 (pa_cons (pv 3) pa_nil)))) (pw_or1 (pt_cmpR (op_eqD (hu4_of hr)) (pv 3) (pe_tup pa_nil) (nomark _)))))
          (pss_one ps_never)
          pss_nil)))
      (pss_cons (ps_for PassesOwn.never rfl (pi_enumT (by rfl) B.enumerate_ (pa_cons (pv 0) pa_nil)) (pg_tup rfl (pgs_cons (pg_name (i := 4) sc_made_calendar.nd rfl (Or.inl rfl)) (pgs_cons (pg_name (i := 5) sc_made_calendar.nd rfl (Or.inl rfl)) pgs_nil)))
        (pss_one (ps_if (PW.pt (pw_or (pt_not (pt_val (pe_callC C_is_number (hr.mono (by decide)) (by rfl) pass0 (pa_cons (pv 5) pa_nil)))) (pw_or1 (pt_not (pt_chain op_le op_le pe_int (pv 5) (pe_callB call_len_seq (by rfl) B.len_ (by decide +kernel) (pa_cons (pv 1) pa_nil)))))))
          (pss_one ps_never)
          pss_nil)))
      (pss_cons (ps_set (i := 6) sc_made_calendar.nd rfl (Or.inl rfl) (pe_callC C_counts_of (hr.mono (by decide)) (by rfl) pass0 (pa_cons (pv 0) (pa_cons (pv 1) pa_nil))))
      (pss_cons (ps_for PassesOwn.never rfl (pi_enumT (by rfl) B.enumerate_ (pa_cons (pv 1) pa_nil)) (pg_tup rfl (pgs_cons (pg_name (i := 2) sc_made_calendar.nd rfl (Or.inl rfl)) (pgs_cons (pg_name (i := 3) sc_made_calendar.nd rfl (Or.inl rfl)) pgs_nil)))
        (pss_one (ps_if (pt_cmpR op_gt (pe_callB (cr_sumS rfl) (by rfl) B.sum_ (by decide +kernel) (pa_cons (pv 3) pa_nil)) (pe_ix ix_list (pv 6) (pv 2) (fun _ _ => rfl)) (nomark _))
          (pss_one ps_never)
          pss_nil)))
      (pss_one (ps_ret (pe_make MC GC (hr.mono (by decide)) (by rfl) T.mgC bC .nil pass0 (pa_cons (pv 0) (pa_cons (pv 1) pa_nil)))))))))))
   , ?_⟩
  have hlen : xs.length = days.length := by rw [ts.len, List.length_map]
  have hlo := hO.lo
  have hhi := hO.hi
  have hdl := hO.dl
  have cnt : ∀ d : Nat, (∀ x, xs[d]? = some x → ∃ (a : Addr) (p : List Int), days[d]? = some p ∧ x = .ref a ∧ H a = some (.tup (p.map V.int))) := fun d x hx => by
    obtain ⟨e, he, te⟩ := ts.get hx
    obtain ⟨p, hp, rfl⟩ := get_map he
    obtain ⟨a, rfl, ha⟩ := dI_at te
    exact ⟨a, p, hp, rfl, ha⟩
  trivial
  refine ⟨vb, _, rfl, .inr hB.sqT, ?_⟩
  trivial
  rw [decide_eq_true (show (1 : Int) ≤ ((born.map V.int).length : Nat) by rw [List.length_map]; omega)]
  trivial
  refine iteNS (by rw [List.length_map]; omega) ?_
  trivial
  refine ⟨vd, _, rfl, .inr (.of hT), ?_⟩
  trivial
  refine ite2 (fun c => absurd (of_decide_eq_true c) (by omega)) (fun _ => ?_)
  trivial
  refine ⟨_, _, rfl, .of hT, ?_⟩
  refine for_enumT (xs := xs) (fun i σ H1 => ∃ (u v : Option V), σ = [some (.ref vb), some (.ref vd), u, v, none, none, none] ∧ Same H H1) ⟨_, _, rfl, L2.Same.refl _⟩ (fun i σ H1 hi h => ?_) (fun i x T σ H1 hx h hT1 => ?_) (fun σ H1 h => ?_)
  · obtain ⟨u, v, rfl, e⟩ := h
    exact .of (e _ _ hT)
  · obtain ⟨u, v, rfl, e⟩ := h
    obtain ⟨a, p, hp, rfl, ha⟩ := cnt i _ hx
    obtain ⟨hpo, hpl⟩ := hO.pat p (List.mem_of_getElem? hp)
    refine ⟨T, _, rfl, .of upd_same, rfl, ?_⟩
    trivial
    have e2 : Same H (upd H1 T (.tup [.int (i : Nat), .ref a])) := e.put hT1 _
    refine ⟨a, p, rfl, e2 _ _ ha, by omega, hpo.two, hpo.desc, fun H2 e3 => ?_⟩
    trivial
    refine ⟨(by show 0 ≤ sizeLine; decide), fun t ht => ?_⟩
    have e4 := e2.trans (e3.put ht (.tup []))
    refine ⟨dI p, .tuple [], dp_tup (.of (e4 _ _ ha)), .tup (.of upd_same) .nil, (Bd.dI (m := 0) p).shaped (by decide), by rfl, ?_⟩
    refine ⟨_, rfl, ?_⟩
    have en : (PyData.eqv (dI p) (.tuple [])) = false := by
      unfold dI
      rw [eqv_nil]
      exact decide_eq_false fun z => hpo.ne (List.map_eq_nil_iff.mp z)
    rw [en]
    refine iteF ?_
    exact ⟨_, _, rfl, e4⟩
  · obtain ⟨u, v, rfl, e⟩ := h
    trivial
    refine ⟨_, _, rfl, (hC.mono e.ts).b.sqT, ?_⟩
    refine for_enumT (xs := born.map V.int) (fun i σ H1 => ∃ (u v u' v' : Option V), σ = [some (.ref vb), some (.ref vd), u, v, u', v', none] ∧ Same H H1) ⟨_, _, _, _, rfl, e⟩ (fun i σ H1 hi h => ?_) (fun i x T σ H1 hx h hT1 => ?_) (fun σ H1 h => ?_)
    · obtain ⟨_, _, _, _, rfl, e⟩ := h
      exact (hC.mono e.ts).b.sqT
    · obtain ⟨_, _, _, _, rfl, e⟩ := h
      obtain ⟨k, hk, rfl⟩ := get_map hx
      have hbd := hO.bd k (List.mem_of_getElem? hk)
      refine ⟨T, _, rfl, .of upd_same, rfl, ?_⟩
      trivial
      have e2 : Same H (upd H1 T (.tup [.int (i : Nat), .int k])) := e.put hT1 _
      refine ⟨_, _, rfl, .int k, ?_⟩
      trivial
      rw [decide_eq_true hbd.1]
      trivial
      refine ⟨vd, _, rfl, .inr (.of (e2 _ _ hT)), ?_⟩
      trivial
      refine iteNS (by rw [hlen]; exact hbd.2) ?_
      exact ⟨_, _, _, _, rfl, e2⟩
    · obtain ⟨_, _, _, _, rfl, e⟩ := h
      trivial
      refine ⟨vb, vd, born, days, rfl, hC.mono e.ts, by omega, fun r ns H2 e3 hr2 hns => ?_⟩
      have e4 := e.trans e3
      trivial
      refine ⟨_, _, rfl, .of (e4 _ _ hT), ?_⟩
      refine for_enumT (xs := xs) (fun i σ H1 => ∃ (u v u' v' : Option V), σ = [some (.ref vb), some (.ref vd), u, v, u', v', some (.ref r)] ∧ Same H H1 ∧ H1 r = some (.lst (ns.map V.int))) ⟨_, _, _, _, rfl, e4, hr2⟩ (fun i σ H1 hi h => ?_) (fun i x T σ H1 hx h hT1 => ?_) (fun σ H1 h => ?_)
      · obtain ⟨_, _, _, _, rfl, e, _⟩ := h
        exact .of (e _ _ hT)
      · obtain ⟨_, _, _, _, rfl, e, hr3⟩ := h
        have hi : i < days.length := by rw [← hlen]; exact (List.getElem?_eq_some_iff.mp hx).1
        obtain ⟨a, p, hp, rfl, ha⟩ := cnt i _ hx
        refine ⟨T, _, rfl, .of upd_same, rfl, ?_⟩
        trivial
        have e2 : Same H (upd H1 T (.tup [.int (i : Nat), .ref a])) := e.put hT1 _
        have hr4 : upd H1 T (.tup [.int (i : Nat), .ref a]) r = some (.lst (ns.map V.int)) := by rw [upd_ne (ne_of_none hr3 hT1)]; exact hr3
        refine ⟨a, p, rfl, .of (e2 _ _ ha), ?_⟩
        trivial
        refine ⟨r, _, _, _, rfl, rfl, .of hr4, atI_nat (by rw [List.getElem?_map, hns i hi]; rfl), ?_⟩
        trivial
        have hc := hO.cnt i hi
        have eg : days.getD i [] = p := by rw [List.getD_eq_getElem?_getD, hp]; rfl
        rw [eg] at hc
        refine ite2 (fun c => absurd (of_decide_eq_true c) (by omega)) (fun _ => ?_)
        exact ⟨_, _, _, _, rfl, e2, hr4⟩
      · obtain ⟨_, _, _, _, rfl, e, hr3⟩ := h
        trivial
        intro c dx nc nd ncd
        refine ⟨c, dx, vb, vd, rfl, upd_same, fun H' hI hk => ⟨rfl, ?_⟩⟩
        exact q c H' (e.trans (Same.made nc nd hk)) hI
end
end G93

set_option Elab.async false
set_option linter.all false
set_option maxRecDepth 100000
set_option maxHeartbeats 4000000
/-! dicts by what they hold -/
namespace G93
open PySem PySem.Spec PyProof.Rows L2
section
variable {κ : Type} [DecidableEq κ]
theorem valV_drop (kvs : List (κ × V)) (k j : κ) : valV (dropK kvs k) j = if j = k then none else valV kvs j := by
  induction kvs with
  | nil => simp [dropK, valV_nil]
  | cons p r ih =>
    by_cases e : p.1 = k
    · rw [dropK_pos e, ih]
      by_cases h : j = k
      · rw [if_pos h, if_pos h]
      · rw [if_neg h, if_neg h, valV_neg (fun z => h (z.symm.trans e))]
    · rw [dropK_neg e]
      by_cases h : p.1 = j
      · rw [valV_pos h, valV_pos h, if_neg (fun z => e (h.trans z))]
      · rw [valV_neg h, valV_neg h, ih]
theorem nd_put {kvs : List (κ × V)} {k : κ} (v : V) (hn : (kvs.map (·.1)).Nodup) : ((putK kvs k v).map (·.1)).Nodup := by
  cases h : valV kvs k with
  | none => exact nd_putK v hn h
  | some u =>
    unfold putK
    rw [valV_any, h]
    have e : (kvs.map fun kv => if kv.1 = k then (kv.1, v) else kv).map (·.1) = kvs.map (·.1) := by
      rw [List.map_map]
      refine List.map_congr_left fun p _ => ?_
      show (if p.1 = k then (p.1, v) else p).1 = p.1
      split <;> rfl
    rw [if_pos (show (some u).isSome = true from rfl), e]
    exact hn
end
structure DG (R : Int → V → Prop) (kvs : List (Key × V)) (A : Int → Prop) : Prop where
  nd : (kvs.map (·.1)).Nodup
  fw : ∀ k v, valV kvs k = some v → ∃ x, k = Sum.inl x ∧ A x
  bw : ∀ x, A x → ∃ v, valV kvs (Sum.inl x) = some v ∧ R x v
theorem DG.no {R : Int → V → Prop} {kvs : List (Key × V)} {A : Int → Prop} (d : DG R kvs A) {x : Int} (h : ¬ A x) : valV kvs (Sum.inl x) = none := by
  cases e : valV kvs (Sum.inl x) with
  | none => rfl
  | some v =>
    obtain ⟨y, ey, hy⟩ := d.fw _ _ e
    cases ey
    exact absurd hy h
theorem DG.emp {R : Int → V → Prop} : DG R [] (fun _ => False) := ⟨.nil, fun k v h => (by rw [valV_nil] at h; cases h), fun x h => h.elim⟩
theorem DG.imp {R R' : Int → V → Prop} {kvs : List (Key × V)} {A : Int → Prop} (d : DG R kvs A) (h : ∀ x v, A x → R x v → R' x v) : DG R' kvs A := ⟨d.nd, d.fw, fun x hx => let ⟨v, e, r⟩ := d.bw x hx; ⟨v, e, h x v hx r⟩⟩
theorem DG.congr {R : Int → V → Prop} {kvs : List (Key × V)} {A B : Int → Prop} (d : DG R kvs A) (h : ∀ x, A x ↔ B x) : DG R kvs B := by
  have e : A = B := funext fun x => propext (h x)
  rw [← e]; exact d
theorem DG.pop {R : Int → V → Prop} {kvs : List (Key × V)} {A : Int → Prop} (d : DG R kvs A) (x : Int) : DG R (dropK kvs (Sum.inl x)) (fun y => A y ∧ y ≠ x) where
  nd := nd_dropK d.nd
  fw := fun k v h => by
    rw [valV_drop] at h
    split at h
    · cases h
    · rename_i hk
      obtain ⟨y, ey, hy⟩ := d.fw _ _ h
      exact ⟨y, ey, hy, fun z => hk (by rw [ey, z])⟩
  bw := fun y hy => by
    obtain ⟨v, e, r⟩ := d.bw y hy.1
    exact ⟨v, by rw [valV_drop, if_neg (fun z => hy.2 (Sum.inl.inj z))]; exact e, r⟩
theorem DG.put {R : Int → V → Prop} {kvs : List (Key × V)} {A : Int → Prop} (d : DG R kvs A) {x : Int} {v : V} {R' : Int → V → Prop} (hr : R' x v) (h : ∀ y u, A y → y ≠ x → R y u → R' y u) : DG R' (putK kvs (Sum.inl x) v) (fun y => A y ∨ y = x) where
  nd := nd_put v d.nd
  fw := fun k u e => by
    rw [valV_put] at e
    split at e
    · rename_i hk
      exact ⟨x, hk, .inr rfl⟩
    · obtain ⟨y, ey, hy⟩ := d.fw _ _ e
      exact ⟨y, ey, .inl hy⟩
  bw := fun y hy => by
    rw [valV_put]
    by_cases e : y = x
    · subst e
      exact ⟨v, if_pos rfl, hr⟩
    · rcases hy with hy | hy
      · obtain ⟨u, e2, r⟩ := d.bw y hy
        exact ⟨u, by rw [if_neg (fun z => e (Sum.inl.inj z))]; exact e2, h y u hy e r⟩
      · exact absurd hy e
theorem DG.keys {R : Int → V → Prop} {kvs : List (Key × V)} {A : Int → Prop} (d : DG R kvs A) : ∃ ks : List Int, kvs.map (·.1) = ks.map Sum.inl ∧ ks.Nodup ∧ ∀ x, x ∈ ks ↔ A x := by
  have h1 : ∀ k ∈ kvs.map (·.1), ∃ x, k = Sum.inl x ∧ A x := fun k hk => by
    obtain ⟨p, hp, rfl⟩ := List.mem_map.mp hk
    exact d.fw _ _ (val_nodup d.nd p hp)
  have h2 : ∀ l : List Key, (∀ k ∈ l, ∃ x, k = Sum.inl x ∧ A x) → ∃ ks : List Int, l = ks.map Sum.inl := fun l => by
    induction l with
    | nil => exact fun _ => ⟨[], rfl⟩
    | cons k r ih =>
      intro h
      obtain ⟨ks, e⟩ := ih fun y hy => h y (List.mem_cons_of_mem _ hy)
      obtain ⟨x, ex, _⟩ := h k List.mem_cons_self
      exact ⟨x :: ks, by rw [List.map_cons, ← e, ex]⟩
  obtain ⟨ks, e⟩ := h2 _ h1
  have hnd := d.nd
  rw [e] at hnd
  refine ⟨ks, e, ?_, fun x => ⟨fun hx => ?_, fun hx => ?_⟩⟩
  · exact List.Pairwise.of_map Sum.inl (fun a b h z => h (by rw [z])) hnd
  · obtain ⟨y, ey, hy⟩ := h1 (Sum.inl x) (by rw [e]; exact List.mem_map_of_mem hx)
    cases ey
    exact hy
  · obtain ⟨v, ev, _⟩ := d.bw x hx
    have := valV_in ev
    rw [e] at this
    obtain ⟨y, hy, ey⟩ := List.mem_map.mp this
    cases ey
    exact hy
theorem DG.len {R : Int → V → Prop} {kvs : List (Key × V)} {A : Int → Prop} (d : DG R kvs A) {n : Nat} (h : ∀ x, A x → x ∈ dom0 n) : kvs.length ≤ n := by
  obtain ⟨ks, e, nd, hm⟩ := d.keys
  have h1 : kvs.length = ks.length := by rw [← List.length_map (as := kvs) (·.1), e, List.length_map]
  have h2 := (nodup_sub nd (fun x hx => h x ((hm x).mp hx)) (dom0_nodup n)).length_eq
  have h3 := List.length_filter_le (fun x => decide (x ∈ ks)) (dom0 n)
  rw [dom0_len] at h3
  omega
/-- the sorted keys -/
theorem DG.sorted {R : Int → V → Prop} {kvs : List (Key × V)} {A : Int → Prop} (d : DG R kvs A) {dom ys ks : List Int} (hk : kvs.map (·.1) = ks.map Sum.inl) (hp : ys.Perm ks) (hs : ys.Pairwise (· ≤ ·)) (ha : dom.Pairwise (· < ·)) (hm : ∀ x, x ∈ dom ↔ A x) : ys = dom := by
  obtain ⟨ks', e, nd, hm'⟩ := d.keys
  have e1 : ks = ks' := by
    rw [hk] at e
    exact List.map_inj_right (fun _ _ z => Sum.inl.inj z) |>.mp e
  subst e1
  have p : ys.Perm dom := hp.trans ((List.perm_ext_iff_of_nodup nd (asc_nodup ha)).mpr fun x => (hm' x).trans (hm x).symm)
  exact p.eq_of_pairwise (fun x y _ _ h1 h2 => by omega) hs (lt_le ha)
/-! ### lines: so many leaves together -/
def lenOf (H : Hp) (v : V) : Nat := match v with
  | .ref q => (match H q with
    | some (.tup xs) => xs.length
    | _ => 0)
  | _ => 0
def wOf (H : Hp) (kvs : List (Key × V)) : Nat := (kvs.map fun kv => lenOf H kv.2).sum
def RL (H : Hp) (_ : Int) (v : V) : Prop := ∃ (q : Addr) (ns : List Int), v = .ref q ∧ H q = some (.tup (ns.map V.int)) ∧ 1 ≤ ns.length
structure LK (H : Hp) (kvs : List (Key × V)) (A : Int → Prop) (t : Nat) : Prop where
  d : DG (RL H) kvs A
  w : wOf H kvs ≤ t
theorem lenOf_tup {H : Hp} {q : Addr} {ns : List Int} (h : H q = some (.tup (ns.map V.int))) : lenOf H (.ref q) = ns.length := by
  unfold lenOf
  simp only [h, List.length_map]
theorem wOf_same {H H' : Hp} (e : Same H H') : ∀ {kvs : List (Key × V)}, (∀ p ∈ kvs, ∃ x, RL H x p.2) → wOf H' kvs = wOf H kvs
  | [], _ => rfl
  | p :: r, h => by
    obtain ⟨x, q, ns, e1, e2, _⟩ := h p List.mem_cons_self
    have ih := wOf_same e (kvs := r) fun y hy => h y (List.mem_cons_of_mem _ hy)
    unfold wOf at ih ⊢
    rw [List.map_cons, List.map_cons, List.sum_cons, List.sum_cons, ih, e1, lenOf_tup e2, lenOf_tup (e _ _ e2)]
theorem wOf_drop {H : Hp} : ∀ {kvs : List (Key × V)} {k : Key} {v : V}, (kvs.map (·.1)).Nodup → valV kvs k = some v → wOf H (dropK kvs k) + lenOf H v = wOf H kvs
  | [], k, v, _, h => by rw [valV_nil] at h; cases h
  | p :: r, k, v, nd, h => by
    rw [List.map_cons, List.nodup_cons] at nd
    by_cases e : p.1 = k
    · rw [valV_pos e] at h
      cases h
      rw [dropK_pos e, dropK_no (by rw [← e]; exact nd.1)]
      unfold wOf
      rw [List.map_cons, List.sum_cons]
      omega
    · rw [valV_neg e] at h
      rw [dropK_neg e]
      have ih := wOf_drop (H := H) nd.2 h
      unfold wOf at ih ⊢
      rw [List.map_cons, List.map_cons, List.sum_cons, List.sum_cons]
      omega
theorem wOf_put {H : Hp} {kvs : List (Key × V)} {k : Key} {v : V} (h : valV kvs k = none) : wOf H (putK kvs k v) = wOf H kvs + lenOf H v := by
  rw [putK_new v h]
  unfold wOf
  rw [List.map_append, List.sum_append]
  simp
theorem wOf_put_le {H : Hp} {k : Key} {v : V} {n : Nat} (hv : lenOf H v ≤ n) (kvs : List (Key × V)) (nd : (kvs.map (·.1)).Nodup) : wOf H (putK kvs k v) ≤ wOf H kvs + n := by
  cases h : valV kvs k with
  | none => rw [wOf_put h]; omega
  | some u =>
    unfold putK
    rw [valV_any, h, if_pos (show (some u).isSome = true from rfl)]
    clear h
    induction kvs with
    | nil => simp [wOf]
    | cons p r ih =>
      rw [List.map_cons, List.nodup_cons] at nd
      have ih := ih nd.2
      by_cases e : p.1 = k
      · have e2 : r.map (fun kv => if kv.1 = k then (kv.1, v) else kv) = r := by
          refine (List.map_congr_left fun q hq => ?_).trans (List.map_id r)
          rw [if_neg]
          · rfl
          · intro z
            exact nd.1 (by rw [e, ← z]; exact List.mem_map_of_mem (f := (·.1)) hq)
        rw [List.map_cons, e2, if_pos e]
        unfold wOf
        rw [List.map_cons, List.map_cons, List.sum_cons, List.sum_cons]
        show lenOf H v + _ ≤ _
        omega
      · rw [List.map_cons, if_neg e]
        unfold wOf at ih ⊢
        rw [List.map_cons, List.map_cons, List.sum_cons, List.sum_cons]
        omega
theorem LK.all {H : Hp} {kvs : List (Key × V)} {A : Int → Prop} {t : Nat} (l : LK H kvs A t) : ∀ p ∈ kvs, ∃ x, RL H x p.2 := fun p hp => by
  have h := val_nodup l.d.nd p hp
  obtain ⟨x, ex, hx⟩ := l.d.fw _ _ h
  obtain ⟨v, ev, r⟩ := l.d.bw x hx
  rw [← ex, h] at ev
  cases ev
  exact ⟨x, r⟩
theorem LK.same {H H' : Hp} {kvs : List (Key × V)} {A : Int → Prop} {t : Nat} (l : LK H kvs A t) (e : Same H H') : LK H' kvs A t :=
  ⟨l.d.imp fun x v _ ⟨q, ns, a, b, c⟩ => ⟨q, ns, a, e _ _ b, c⟩, by rw [wOf_same e l.all]; exact l.w⟩
/-- all but the dict at s -/
theorem wOf_ts {H H' : Hp} (e : TS H H') : ∀ {kvs : List (Key × V)}, (∀ p ∈ kvs, ∃ x, RL H x p.2) → wOf H' kvs = wOf H kvs
  | [], _ => rfl
  | p :: r, h => by
    obtain ⟨x, q, ns, e1, e2, _⟩ := h p List.mem_cons_self
    have ih := wOf_ts e (kvs := r) fun y hy => h y (List.mem_cons_of_mem _ hy)
    unfold wOf at ih ⊢
    rw [List.map_cons, List.map_cons, List.sum_cons, List.sum_cons, ih, e1, lenOf_tup e2, lenOf_tup (e.t _ _ e2)]
theorem LK.ts {H H' : Hp} {kvs : List (Key × V)} {A : Int → Prop} {t : Nat} (l : LK H kvs A t) (e : TS H H') : LK H' kvs A t :=
  ⟨l.d.imp fun x v _ ⟨q, ns, a, b, c⟩ => ⟨q, ns, a, e.t _ _ b, c⟩, by rw [wOf_ts e l.all]; exact l.w⟩
theorem LK.congr {H : Hp} {kvs : List (Key × V)} {A B : Int → Prop} {t : Nat} (l : LK H kvs A t) (h : ∀ x, A x ↔ B x) : LK H kvs B t := ⟨l.d.congr h, l.w⟩
theorem LK.pop {H : Hp} {kvs : List (Key × V)} {A : Int → Prop} {t : Nat} (l : LK H kvs A t) {x : Int} (hx : A x) : ∃ (q : Addr) (ns : List Int), valV kvs (Sum.inl x) = some (.ref q) ∧ H q = some (.tup (ns.map V.int)) ∧ 1 ≤ ns.length ∧ ns.length ≤ t ∧ LK H (dropK kvs (Sum.inl x)) (fun y => A y ∧ y ≠ x) (t - ns.length) := by
  obtain ⟨v, ev, q, ns, rfl, hq, h1⟩ := l.d.bw x hx
  have h2 := wOf_drop (H := H) l.d.nd ev
  rw [lenOf_tup hq] at h2
  have := l.w
  exact ⟨q, ns, ev, hq, h1, by omega, l.d.pop x, by omega⟩
theorem LK.put {H : Hp} {kvs : List (Key × V)} {A : Int → Prop} {t : Nat} (l : LK H kvs A t) {x : Int} {q : Addr} {ns : List Int} (hq : H q = some (.tup (ns.map V.int))) (h1 : 1 ≤ ns.length) :
    LK H (putK kvs (Sum.inl x) (.ref q)) (fun y => A y ∨ y = x) (t + ns.length) := by
  refine ⟨l.d.put ⟨q, ns, rfl, hq, h1⟩ fun _ _ _ _ r => r, ?_⟩
  have := wOf_put_le (H := H) (k := Sum.inl x) (v := .ref q) (n := ns.length) (by rw [lenOf_tup hq]; exact Nat.le_refl _) kvs l.d.nd
  have := l.w
  omega
end G93

set_option Elab.async false
set_option linter.all false
set_option maxRecDepth 100000
set_option maxHeartbeats 4000000
/-! slices, membership among ints -/
namespace G93
open PySem PySem.Spec PyProof.Rows L2
theorem flat_ints (l : List Int) : (l.map V.int).all flatV = true := by
  induction l with
  | nil => rfl
  | cons x r ih => rw [List.map_cons, List.all_cons, ih]; rfl
theorem inV_ints (k : Int) (l : List Int) : inV (.int k) (l.map V.int) = decide (k ∈ l) := by
  induction l with
  | nil => rfl
  | cons x r ih =>
    unfold inV at ih ⊢
    rw [List.map_cons, List.any_cons, ih]
    have e : eqV (.int x) (.int k) = decide (x = k) := by
      show (x == k) = decide (x = k)
      rfl
    rw [e]
    by_cases h : x = k
    · simp [h]
    · have h2 : ¬ k = x := fun z => h z.symm
      simp [h, h2]
theorem cut_to {xs : List V} {i : Nat} (h : i ≤ xs.length) : cutV xs none (some (i : Int)) = xs.take i := by
  unfold cutV
  rw [HT.sIx_none, HT.sIx_nat, List.drop_zero, Nat.sub_zero, Nat.min_eq_left h]
theorem cut_from {xs : List V} {i : Nat} (h : i ≤ xs.length) : cutV xs (some (i : Int)) none = xs.drop i := by
  unfold cutV
  rw [HT.sIx_none, HT.sIx_nat, Nat.min_eq_left h]
  exact List.take_of_length_le (by rw [List.length_drop]; exact Nat.le_refl _)
theorem cut_butlast (xs : List V) : cutV xs none (some (-1)) = xs.dropLast := by
  unfold cutV
  rw [HT.sIx_none, List.drop_zero, Nat.sub_zero, List.dropLast_eq_take]
  have e : HT.sIx xs.length xs.length (some (-1)) = xs.length - 1 := by
    show (if (-1 : Int) < 0 then ((-1 : Int) + (xs.length : Int)).toNat else min (-1 : Int).toNat xs.length) = xs.length - 1
    rw [if_pos (show (-1 : Int) < 0 by decide)]
    omega
  rw [e]
end G93

set_option Elab.async false
set_option linter.all false
set_option maxRecDepth 100000
set_option maxHeartbeats 4000000
/-! the lines of a tree -/
namespace G93
open PySem PySem.Spec PyProof.Rows L2
local macro_rules | `(tactic| trivial) => `(tactic| (repeat (first | refine ⟨_, rfl, ?_⟩ | refine ⟨_, _, rfl, rfl, ?_⟩ | refine .inl ⟨_, rfl, ?_⟩ | refine ⟨_, _, rfl, ?_⟩)))
abbrev s_with_newborn : Stmt := top 11
theorem sc_with_newborn : FnScope ["calendar", "lines", "d", "found", "leaf", "day"] ["calendar", "lines", "d"] (defScope s_with_newborn) := ⟨rfl, rfl, rfl, by decide +kernel, rfl, by decide +kernel, by decide +kernel⟩
abbrev s_behind_row : Stmt := top 12
theorem sc_behind_row : FnScope ["lines", "row", "found", "group", "met", "name"] ["lines", "row"] (defScope s_behind_row) := ⟨rfl, rfl, rfl, by decide +kernel, rfl, by decide +kernel, by decide +kernel⟩
theorem TS.updD {H : Hp} {r : Addr} {kvs : List (Key × V)} (h : H r = some (.dK kvs)) (o : HO) : TS H (upd H r o) :=
  ⟨fun b xs q => by rw [upd_ne (ne_of q h (by intro z; cases z))]; exact q, fun b o u q => by rw [upd_ne (ne_of q h (by intro z; cases z))]; exact q⟩
def LinesAt (H : Hp) (a : Addr) (A : Int → Prop) (t : Nat) : Prop := ∃ kvs, H a = some (.dK kvs) ∧ LK H kvs A t
/-- born at d, among the first i -/
def NBi (born : List Int) (d i : Nat) (x : Int) : Prop := ∃ k : Nat, x = k ∧ k < i ∧ born[k]? = some (d : Int)
theorem take_snoc {α : Type} {l : List α} {i : Nat} {x : α} (h : l[i]? = some x) : l.take (i + 1) = l.take i ++ [x] := by
  rw [List.take_add_one, h]
  rfl
theorem asc_notake {g : List Int} (h : g.Pairwise (· < ·)) {j : Nat} {k : Int} (hk : g[j]? = some k) : k ∉ g.take j := fun z => by
  obtain ⟨i, hi, e⟩ := List.mem_take_iff_getElem.mp z
  obtain ⟨l2, e2⟩ := List.getElem?_eq_some_iff.mp hk
  have := List.pairwise_iff_getElem.mp h i j (by omega) l2 (by omega)
  rw [e, e2] at this
  omega
theorem not_twice : ∀ {row : List (List Int)} {i : Nat} {g g2 : List Int} {x : Int}, row.flatten.Nodup → row[i]? = some g → g2 ∈ row.take i → x ∈ g → x ∈ g2 → False
  | [], _, _, _, _, _, h, _, _, _ => by simp at h
  | a :: r, 0, _, _, _, _, _, h, _, _ => by simp at h
  | a :: r, i + 1, g, g2, x, nd, h, h2, h3, h4 => by
    rw [List.flatten_cons, List.nodup_append] at nd
    rw [List.getElem?_cons_succ] at h
    rw [List.take_succ_cons] at h2
    rcases List.mem_cons.mp h2 with e | h2
    · subst e
      exact nd.2.2 x h4 x (List.mem_flatten.mpr ⟨g, List.mem_of_getElem? h, h3⟩) rfl
    · exact not_twice nd.2.1 h h2 h3 h4
def spBorn (C : Addr) : Sp := fun vs H Q _ => ∃ (c l vb vd : Addr) (d t n : Nat) (born : List Int) (days : List (List Int)) (A : Int → Prop), vs = [.ref c, .ref l, .int d] ∧ CalIns C H c vb vd ∧ CalAt H vb vd born days ∧ born.length ≤ n ∧ n ≤ 100 ∧ LinesAt H l A t ∧ t ≤ 2000 ∧ (∀ x, A x → x ∈ dom0 n) ∧
  ∀ r H', Same H H' → LinesAt H' r (fun x => A x ∨ NB born d x) (t + n) → Q (.ref r) H'
def rowD (row : List (List Int)) : PyData := .tuple (row.map dI)
def spBehind : Sp := fun vs H Q _ => ∃ (l r : Addr) (t n : Nat) (A : Int → Prop) (p : List Int) (row : List (List Int)), vs = [.ref l, .ref r] ∧ LinesAt H l A t ∧ t ≤ 2000 ∧ n ≤ 100 ∧ (∀ x, A x → x ∈ dom0 n) ∧ Tp H (.ref r) (rowD row) ∧ RowOk A p row ∧
  ∀ r H', Same H H' → LinesAt H' r (fun x => A x ∧ x ∉ tails row) t → Q (.ref r) H'
section
variable {P : Program} {w : World} {K : PySem.W.Frag} {mg : Str → Option Value} {base : Heap} {f : Addr} {fd : FuncData}
theorem ok_born {C : Addr} (F : Fun K "with_newborn" "with_newborn" s_with_newborn f fd) (B : Bi mg) (T : CalT K mg C) : FnOk P w K mg base CX0 1 f fd ["calendar", "lines", "d"] (spBorn C) := by
  refine F.ok sc_with_newborn (fun vs H Q E h => ?_) (fun cdv A outer s H vs Q E hr h => ?_)
  · obtain ⟨p, dx, vb, vd, _, _, _, _, _, _, rfl, _⟩ := h
    rfl
  obtain ⟨c, l, vb, vd, d, t, n, born, days, A, rfl, ⟨dx, hI⟩, hC, hbn, hn, ⟨kvs, hl, hK⟩, ht, hA, q⟩ := h
  refine ⟨_, (pss_cons (ps_set (i := 3) sc_with_newborn.nd rfl (Or.inl rfl) (pe_callTy call_dictD (by rfl) B.dict_ (by decide +kernel) (pa_cons (pv 1) pa_nil)))
      (pss_cons (ps_for PassesOwn.never rfl (pi_enumT (by rfl) B.enumerate_ (pa_cons (pe_fld (pv 0) rfl) pa_nil)) (pg_tup rfl (pgs_cons (pg_name (i := 4) sc_with_newborn.nd rfl (Or.inl rfl)) (pgs_cons (pg_name (i := 5) sc_with_newborn.nd rfl (Or.inl rfl)) pgs_nil)))
        (pss_one (ps_if (pt_cmpR op_eq (pv 5) (pv 2) (nomark _))
          (pss_one (ps_dput (hu_of hr) (pv 3) (pv 4) (pe_tup (pa_cons (pv 4) pa_nil)) rfl))
          pss_nil)))
      (pss_one (ps_ret (pv 3)))))
   , ?_⟩
  trivial
  refine ⟨l, kvs, rfl, .inl hl, fun r hr' => ?_⟩
  have e0 : Same H (upd H r (.dK kvs)) := L2.Same.of_new hr' _
  trivial
  refine ⟨c, C, dx, _, _, rfl, e0 _ _ hI, T.clC, T.nB, calF_born _ _, ?_⟩
  trivial
  refine ⟨_, _, rfl, (hC.mono e0.ts).b.sqT, ?_⟩
  refine for_enumT (xs := born.map V.int) (fun i σ H1 => ∃ (u v : Option V), σ = [some (.ref c), some (.ref l), some (.int d), some (.ref r), u, v] ∧ Same H H1 ∧ ∃ kv2, H1 r = some (.dK kv2) ∧ LK H1 kv2 (fun x => A x ∨ NBi born d i x) (t + i)) ⟨_, _, rfl, e0, kvs, upd_same, (hK.same e0).congr fun x => ⟨.inl, fun h => h.elim id fun ⟨k, _, hk, _⟩ => by omega⟩⟩ (fun i σ H1 hi h => ?_) (fun i x T1 σ H1 hx h hT1 => ?_) (fun σ H1 h => ?_)
  · obtain ⟨u, v, rfl, e, _⟩ := h
    exact (hC.mono e.ts).b.sqT
  · obtain ⟨u, v, rfl, e, kv2, hd, hL⟩ := h
    obtain ⟨k, hk, rfl⟩ := get_map hx
    have hi : i < born.length := (List.getElem?_eq_some_iff.mp hk).1
    refine ⟨T1, _, rfl, .of upd_same, rfl, ?_⟩
    trivial
    have e2 : Same H (upd H1 T1 (.tup [.int (i : Nat), .int k])) := e.put hT1 _
    have hd2 : upd H1 T1 (.tup [.int (i : Nat), .int k]) r = some (.dK kv2) := by rw [upd_ne (ne_of_none hd hT1)]; exact hd
    have hL2 := hL.same (L2.Same.of_new hT1 (.tup [.int (i : Nat), .int k]))
    have hlen := hL2.d.len (n := n) fun x hx => hx.elim (hA x) fun ⟨j, e1, e2, e3⟩ => mem_dom0.mpr ⟨by omega, by omega⟩
    refine ⟨rfl, ?_⟩
    trivial
    refine ite2 (fun c => ?_) (fun c => ?_)
    · have hkd : k = (d : Int) := by
        have := of_decide_eq_true c
        cases this
        rfl
      trivial
      refine ⟨(by show 1 ≤ sizeLine; decide), fun t1 ht1 => ?_⟩
      trivial
      refine ⟨r, _, rfl, DPut.k (k := Sum.inl (i : Int)) (by rw [upd_ne (ne_of_none hd2 ht1)]; exact hd2) (small_lt (by omega)), ?_⟩
      refine ⟨_, _, rfl, (e2.put ht1 _).set hr' _, _, upd_same, ?_⟩
      have h3 := hL2.same (L2.Same.of_new ht1 (.tup [.int (i : Nat)]))
      have h4 := h3.put (x := (i : Int)) (q := t1) (ns := [(i : Int)]) upd_same (Nat.le_refl _)
      refine (h4.ts (TS.updD (by rw [upd_ne (ne_of_none hd2 ht1)]; exact hd2) _)).congr fun x => ⟨fun h => ?_, fun h => ?_⟩
      · rcases h with (h | ⟨j, e1, e5, e6⟩) | h
        · exact .inl h
        · exact .inr ⟨j, e1, by omega, e6⟩
        · exact .inr ⟨i, h, by omega, by rw [hk, hkd]⟩
      · rcases h with h | ⟨j, e1, e5, e6⟩
        · exact .inl (.inl h)
        · by_cases hj : j = i
          · exact .inr (by rw [e1, hj])
          · exact .inl (.inr ⟨j, e1, by omega, e6⟩)
    · refine ⟨_, _, rfl, e2, kv2, hd2, ?_⟩
      have hkd : ¬ k = (d : Int) := fun z => by
        subst z
        exact c (decide_eq_true rfl)
      have h5 := hL2.congr (B := fun x => A x ∨ NBi born d (i + 1) x) fun x => ⟨fun h => ?_, fun h => ?_⟩
      · exact ⟨h5.d, by have := h5.w; omega⟩
      · rcases h with h | ⟨j, e1, e5, e6⟩
        · exact .inl h
        · exact .inr ⟨j, e1, by omega, e6⟩
      · rcases h with h | ⟨j, e1, e5, e6⟩
        · exact .inl h
        · by_cases hj : j = i
          · subst hj
            rw [hk] at e6
            cases e6
            exact absurd rfl hkd
          · exact .inr ⟨j, e1, by omega, e6⟩
  · obtain ⟨u, v, rfl, e, kv2, hd, hL⟩ := h
    trivial
    rw [List.length_map] at hL
    have h5 := hL.congr (B := fun x => A x ∨ NB born d x) fun x => ⟨fun h => h.imp id fun ⟨j, a, _, b⟩ => ⟨j, a, b⟩, fun h => h.imp id fun ⟨j, a, b⟩ => ⟨j, a, (List.getElem?_eq_some_iff.mp b).1, b⟩⟩
    exact q _ _ e ⟨kv2, hd, h5.d, by have := h5.w; omega⟩
theorem ok_behind (F : Fun K "behind_row" "behind_row" s_behind_row f fd) (B : Bi mg) : FnOk P w K mg base CX0 1 f fd ["lines", "row"] spBehind := by
  refine F.ok sc_behind_row (fun vs H Q E h => ?_) (fun cdv A outer s H vs Q E hr h => ?_)
  · obtain ⟨l, r, _, _, _, _, _, rfl, _⟩ := h
    rfl
  obtain ⟨l, rw_, t, n, A, p, row, rfl, ⟨kvs, hl, hK⟩, ht, hn, hA, hrow, hok, q⟩ := h
  obtain ⟨xs, hT, ts⟩ := hrow.tup_ref
  refine ⟨_, (pss_cons (ps_set (i := 2) sc_behind_row.nd rfl (Or.inl rfl) (pe_callTy call_dictD (by rfl) B.dict_ (by decide +kernel) (pa_cons (pv 0) pa_nil)))
      (pss_cons (ps_for PassesOwn.never rfl (pi_tup (pv 1)) (pg_name (i := 3) sc_behind_row.nd rfl (Or.inl rfl))
        (pss_cons (ps_set (i := 4) sc_behind_row.nd rfl (Or.inl rfl) (pe_lst pa_nil))
        (pss_cons (ps_for PassesOwn.never rfl (pi_tup (pv 3)) (pg_name (i := 5) sc_behind_row.nd rfl (Or.inl rfl))
          (pss_one (ps_expr (pe_bm PySem.F.plainAttrs_list PySem.F.slot_list_extend PySem.F.type_list_extend mt_extendT (pv 4) (pa_cons (pe_dpop1 (pv 2) (pv 5) (m1_of (by rfl) (by rfl))) pa_nil)))))
        (pss_one (ps_dput (hu_of hr) (pv 2) (pe_ix ix_tup (pv 3) pe_int (fun _ _ => rfl)) (pe_callTy call_tuple_of (by rfl) B.tuple_ (by decide +kernel) (pa_cons (pe_callB cr_sortedI (by rfl) B.sorted_ (by decide +kernel) (pa_cons (pv 4) pa_nil)) pa_nil)) rfl)))))
      (pss_one (ps_ret (pv 2)))))
   , ?_⟩
  trivial
  refine ⟨l, kvs, rfl, .inl hl, fun r hr' => ?_⟩
  have e0 : Same H (upd H r (.dK kvs)) := L2.Same.of_new hr' _
  trivial
  have hlen : xs.length = row.length := by rw [ts.len, List.length_map]
  refine ⟨⟨_, .of (e0 _ _ hT)⟩, ?_⟩
  refine for_tup (xs := xs) (fun i σ H1 => ∃ (u v z : Option V), σ = [some (.ref l), some (.ref rw_), some (.ref r), u, v, z] ∧ Same H H1 ∧ ∃ kv2, H1 r = some (.dK kv2) ∧ LK H1 kv2 (fun x => A x ∧ x ∉ tails (row.take i)) t) ⟨_, _, _, rfl, e0, kvs, upd_same, (hK.same e0).congr fun x => ⟨fun h => ⟨h, by simp [tails]⟩, fun h => h.1⟩⟩ (fun i σ H1 hi h => ?_) (fun i x σ H1 hx h => ?_) (fun σ H1 h => ?_)
  · obtain ⟨_, _, _, rfl, e, _⟩ := h
    exact .of (e _ _ hT)
  · obtain ⟨_, _, _, rfl, e, kv2, hd, hL⟩ := h
    obtain ⟨g0, hg0, tg⟩ := ts.get hx
    obtain ⟨g, hg, rfl⟩ := get_map hg0
    obtain ⟨ga, rfl, hga⟩ := dI_at tg
    have hgr : g ∈ row := List.mem_of_getElem? hg
    obtain ⟨gasc, gtwo, gmem⟩ := hok.grp g hgr
    refine ⟨(by show 0 ≤ sizeLine; decide), fun m hm => ?_⟩
    have e2 : Same H (upd H1 m (.lst [])) := e.put hm _
    have hmH : H m = none := e.free hm
    trivial
    refine ⟨⟨_, .of (e2 _ _ hga)⟩, ?_⟩
    -- the names' lines, one by one
    refine for_tup (xs := g.map V.int) (fun j σ H2 => ∃ (z : Option V), σ = [some (.ref l), some (.ref rw_), some (.ref r), some (.ref ga), some (.ref m), z] ∧ Same H H2 ∧ ∃ (kv3 : List (Key × V)) (ms : List Int), H2 r = some (.dK kv3) ∧ H2 m = some (.lst (ms.map V.int)) ∧ ms.length ≤ t ∧ (0 < j → 1 ≤ ms.length) ∧
      LK H2 kv3 (fun x => (A x ∧ x ∉ tails (row.take i)) ∧ x ∉ g.take j) (t - ms.length)) ?_ (fun j σ H2 hj h => ?_) (fun j x σ H2 hx h => ?_) (fun σ H2 h => ?_)
    · have hdm : upd H1 m (.lst []) r = some (.dK kv2) := by rw [upd_ne (ne_of_none hd hm)]; exact hd
      refine ⟨_, rfl, e2, kv2, [], hdm, upd_same, Nat.zero_le _, fun z => absurd z (Nat.lt_irrefl _), ?_⟩
      exact (hL.same (L2.Same.of_new hm _)).congr fun x => ⟨fun h => ⟨h, by simp⟩, fun h => h.1⟩
    · obtain ⟨_, rfl, e, _⟩ := h
      exact .of (e _ _ hga)
    · obtain ⟨_, rfl, e, kv3, ms, hd3, hm3, hms, hne, hL3⟩ := h
      obtain ⟨k, hk, rfl⟩ := get_map hx
      have hkg : k ∈ g := List.mem_of_getElem? hk
      have hjg : j < g.length := (List.getElem?_eq_some_iff.mp hk).1
      have hkA : (A k ∧ k ∉ tails (row.take i)) ∧ k ∉ g.take j := by
        refine ⟨⟨gmem k hkg, fun z => ?_⟩, fun z => ?_⟩
        · obtain ⟨g2, hg2, hx2⟩ := mem_tails z
          exact not_twice hok.nd hg hg2 hkg hx2
        · exact asc_notake gasc hk z
      obtain ⟨q1, ns1, ev1, hq1, hn1, hn2, hL4⟩ := hL3.pop hkA
      trivial
      refine ⟨.inl ⟨rfl, _, .of hm3⟩, ?_⟩
      trivial
      refine ⟨.inl ⟨_, .inl hd3⟩, ?_⟩
      trivial
      refine ⟨kv3, Sum.inl k, _, hd3, rfl, ev1, ?_⟩
      have hmr : m ≠ r := fun z => by rw [z, hd3] at hm3; cases hm3
      have tsD := TS.updD hd3 (.dK (dropK kv3 (Sum.inl k)))
      refine ⟨m, q1, _, _, rfl, rfl, by rw [upd_ne hmr]; exact hm3, .of (tsD.t _ _ hq1), by rw [List.length_map, List.length_map]; exact small_ (by omega), ?_⟩
      have tsM : TS (upd H2 r (.dK (dropK kv3 (Sum.inl k)))) (upd (upd H2 r (.dK (dropK kv3 (Sum.inl k)))) m (.lst (ms.map V.int ++ ns1.map V.int))) :=
        (Kp.ts (s := m) (ys := ms.map V.int) (Kp.self _) (by rw [upd_ne hmr]; exact hm3))
      refine ⟨_, rfl, (e.set hr' _).set hmH _, dropK kv3 (Sum.inl k), ms ++ ns1, by rw [upd_ne hmr.symm, upd_same], by rw [upd_same, List.map_append], by rw [List.length_append]; omega, fun _ => by rw [List.length_append]; omega, ?_⟩
      have h6 := (hL4.ts tsD).ts tsM
      rw [List.length_append, ← Nat.sub_sub]
      refine h6.congr fun x => ?_
      rw [take_snoc hk]
      simp only [List.mem_append, List.mem_singleton, not_or]
      exact ⟨fun h => ⟨h.1.1, h.1.2, h.2⟩, fun h => ⟨⟨h.1, h.2.1⟩, h.2.2⟩⟩
    · obtain ⟨_, rfl, e, kv3, ms, hd3, hm3, hms, hne, hL3⟩ := h
      rw [List.length_map] at hL3 hne
      rw [List.take_length] at hL3
      have hne' := hne (by omega)
      trivial
      refine ⟨m, ms, rfl, .of hm3, fun ns' p hp _ hpn => ?_⟩
      refine ⟨p, _, rfl, .inl ⟨.of upd_same, fun t1 ht1 => ?_⟩⟩
      have hpH : H p = none := e.free hpn
      have eA : Same H (upd H2 p (.lst (ns'.map V.int))) := e.set hpH _
      have ht1H : H t1 = none := eA.free ht1
      have eB := eA.set ht1H (.tup (ns'.map V.int))
      have sB : Same H2 (upd (upd H2 p (.lst (ns'.map V.int))) t1 (.tup (ns'.map V.int))) := (L2.Same.of_new hpn _).put ht1 _
      trivial
      obtain ⟨g0, b, rest, rfl⟩ := head_tail gtwo
      refine ⟨ga, _, _, _, rfl, rfl, .of (eB _ _ hga), (show atI (List.map V.int (g0 :: b :: rest)) ((0 : Nat) : Int) = some (.int g0) from atI_nat rfl), ?_⟩
      have hlen3 := hL3.d.len (n := n) fun x hx => hA x hx.1.1
      refine ⟨r, _, rfl, DPut.k (k := Sum.inl g0) (sB _ _ hd3) (small_lt (by omega)), ?_⟩
      refine ⟨_, _, _, rfl, eB.set hr' _, _, upd_same, ?_⟩
      have h7 := (hL3.same sB).put (x := g0) (q := t1) (ns := ns') upd_same (by rw [hp.length_eq]; exact hne')
      rw [hp.length_eq, Nat.sub_add_cancel hms] at h7
      refine (h7.ts (TS.updD (sB _ _ hd3) _)).congr fun x => ?_
      have hasc := List.pairwise_cons.mp gasc
      rw [take_snoc hg]
      simp only [tails, List.flatMap_append, List.flatMap_cons, List.flatMap_nil, List.append_nil, List.mem_append, List.tail_cons, not_or]
      constructor
      · rintro (h | h)
        · exact ⟨h.1.1, h.1.2, fun z => h.2 (List.mem_cons_of_mem _ z)⟩
        · subst h
          refine ⟨gmem x List.mem_cons_self, fun z => ?_, fun z => ?_⟩
          · obtain ⟨g2, hg2, hx2⟩ := mem_tails z
            exact not_twice hok.nd hg hg2 List.mem_cons_self hx2
          · have := hasc.1 x z
            omega
      · rintro ⟨h1, h2, h3⟩
        by_cases hx0 : x = g0
        · exact .inr hx0
        · refine .inl ⟨⟨h1, h2⟩, fun z => ?_⟩
          rcases List.mem_cons.mp z with z | z
          · exact hx0 z
          · exact h3 z
  · obtain ⟨_, _, _, rfl, e, kv2, hd, hL⟩ := h
    trivial
    rw [List.take_of_length_le (by omega)] at hL
    exact q _ _ e ⟨kv2, hd, hL⟩
end
end G93

set_option Elab.async false
set_option linter.all false
set_option maxRecDepth 100000
set_option maxHeartbeats 4000000
/-! groups and rows -/
namespace G93
open PySem PySem.Spec PyProof.Rows L2
local macro_rules | `(tactic| trivial) => `(tactic| (repeat (first | refine ⟨_, rfl, ?_⟩ | refine ⟨_, _, rfl, rfl, ?_⟩ | refine .inl ⟨_, rfl, ?_⟩ | refine ⟨_, _, rfl, ?_⟩)))
abbrev s_is_group : Stmt := top 13
theorem sc_is_group : FnScope ["names", "thing", "name", "at"] ["names", "thing"] (defScope s_is_group) := ⟨rfl, rfl, rfl, by decide +kernel, rfl, by decide +kernel, by decide +kernel⟩
abbrev s_is_row : Stmt := top 14
theorem sc_is_row : FnScope ["names", "pattern", "thing", "met", "group", "name", "at"] ["names", "pattern", "thing"] (defScope s_is_row) := ⟨rfl, rfl, rfl, by decide +kernel, rfl, by decide +kernel, by decide +kernel⟩
def spGroup : Sp := fun vs H Q _ => ∃ (l g : Addr) (t : Nat) (A : Int → Prop) (ns : List Int), vs = [.ref l, .ref g] ∧ LinesAt H l A t ∧ H g = some (.tup (ns.map V.int)) ∧ ns.length ≤ 10000 ∧ ns.Pairwise (· < ·) ∧ (∀ x ∈ ns, A x) ∧ ∀ H', Same H H' → Q (.bl true) H'
def spRow : Sp := fun vs H Q _ => ∃ (l pt tr : Addr) (t n : Nat) (A : Int → Prop) (p : List Int) (row : List (List Int)), vs = [.ref l, .ref pt, .ref tr] ∧ LinesAt H l A t ∧ H pt = some (.tup (p.map V.int)) ∧ p.Pairwise (· ≥ ·) ∧ p.length ≤ 100 ∧ Tp H (.ref tr) (rowD row) ∧ RowOk A p row ∧ n ≤ 100 ∧ (∀ x, A x → x ∈ dom0 n) ∧
  ∀ H', Same H H' → Q (.bl true) H'
theorem flat_take {α : Type} {row : List (List α)} {i : Nat} {g : List α} (h : row[i]? = some g) : (row.take (i + 1)).flatten = (row.take i).flatten ++ g := by
  rw [take_snoc h, List.flatten_append, List.flatten_cons, List.flatten_nil, List.append_nil]
theorem _root_.List.Sublist.flatten_len {a b : List (List Int)} (h : a.Sublist b) : a.flatten.length ≤ b.flatten.length := by
  induction h with
  | slnil => exact Nat.le_refl _
  | cons a _ ih => rw [List.flatten_cons, List.length_append]; omega
  | cons_cons a _ ih => rw [List.flatten_cons, List.flatten_cons, List.length_append, List.length_append]; omega
theorem filterMap_by {α β : Type} {f : α → Option β} : ∀ {xs : List α} {ys : List β}, xs.length = ys.length → (∀ (j : Nat) x, xs[j]? = some x → f x = ys[j]?) → xs.filterMap f = ys
  | [], [], _, _ => rfl
  | [], _ :: _, h, _ => by simp at h
  | _ :: _, [], h, _ => by simp at h
  | x :: xs, y :: ys, h, h2 => by
    have e := h2 0 x rfl
    rw [List.getElem?_cons_zero] at e
    rw [List.filterMap_cons, e, filterMap_by (xs := xs) (ys := ys) (by simpa using h) fun j z hz => by simpa using h2 (j + 1) z (by simpa using hz)]
theorem sub_len {a : List Int} {n : Nat} (h : a.Nodup) (hs : ∀ x ∈ a, x ∈ dom0 n) : a.length ≤ n := by
  have h2 := (nodup_sub h hs (dom0_nodup n)).length_eq
  have h3 := List.length_filter_le (fun x => decide (x ∈ a)) (dom0 n)
  rw [dom0_len] at h3
  omega
section
variable {P : Program} {w : World} {K : PySem.W.Frag} {mg : Str → Option Value} {base : Heap} {f : Addr} {fd : FuncData}
theorem ok_group (F : Fun K "is_group" "is_group" s_is_group f fd) (B : Bi mg) (C_is_number : Cal P w K mg base CX0 1 "is_number" ["thing"] spNum) : FnOk P w K mg base CX0 2 f fd ["names", "thing"] spGroup := by
  refine F.ok sc_is_group (fun vs H Q E h => ?_) (fun cdv A outer s H vs Q E hr h => ?_)
  · obtain ⟨a, p, _, _, _, rfl, _⟩ := h
    rfl
  obtain ⟨l, a, t, AA, p, rfl, ⟨kvs, hl, hK⟩, hT, hz0, hasc, hin, q⟩ := h
  refine ⟨_, (pss_cons (ps_if (PW.pt (pw_or (pt_not (pt_val (pe_callB call_isi (by rfl) B.isinstance_ (by decide +kernel) (pa_cons (pv 1) (pa_cons (pe_bltn (v := .ty "tuple") (by rfl) B.tuple_ (by decide +kernel) rfl) pa_nil))))) (pw_or1 (pt_not (pt_val (pe_callB (cr_all rfl) (by rfl) B.all_ (by decide +kernel) (pa_cons (pe_lc (own := [("name", 2)]) rfl sc_is_group.nd (pi_tup (pv 1)) (blkOk_by (own := [("name", 2)]) (N := ["names", "thing", "name", "at"]) (sc := defScope s_is_group) (by decide +kernel)) (fun _ _ _ _ _ => (pg_name (i := 2) sc_is_group.nd rfl (Or.inl rfl))) (fun _ _ _ _ _ => pts_nil) (fun _ _ _ _ _ => (pe_and (pe_callC C_is_number (hr.mono (by decide)) (by rfl) pass0 (pa_cons (pv 2) pa_nil)) (pe_one (pe_cmp (pc_din (hu_of hr) (pv 2) (pv 0))))))) pa_nil)))))))
        (pss_one (ps_ret pe_bl))
        pss_nil)
      (pss_one (ps_ret (pe_callB (cr_all rfl) (by rfl) B.all_ (by decide +kernel) (pa_cons (pe_lc (own := [("at", 3)]) rfl sc_is_group.nd (pi_range2 (by rfl) B.range_ (pa_cons pe_int (pa_cons (pe_callB call_len_seq (by rfl) B.len_ (by decide +kernel) (pa_cons (pv 1) pa_nil)) pa_nil))) (blkOk_by (own := [("at", 3)]) (N := ["names", "thing", "name", "at"]) (sc := defScope s_is_group) (by decide +kernel)) (fun _ _ _ _ _ => (pg_name (i := 3) sc_is_group.nd rfl (Or.inl rfl))) (fun _ _ _ _ _ => pts_nil) (fun _ _ _ _ _ => (pe_cmpR op_lt (pe_ix (ix_tupK K rfl) (pv 1) (pe_op op_sub (pv 3) pe_int) (fun _ _ => rfl)) (pe_ix (ix_tupK K rfl) (pv 1) (pv 3) (fun _ _ => rfl)) (nomark _)))) pa_nil)))))
   , ?_⟩
  trivial
  obtain ⟨ty, tx, hk⟩ := isi_tup (K := K) (Tp.dI hT)
  refine ⟨_, _, _, _, _, rfl, .ty _, tx, hk, ?_⟩
  trivial
  have hz : (p.map V.int).length ≤ sizeLine := by rw [List.length_map]; exact small_ hz0
  refine ⟨⟨_, .of hT⟩, fun D hD => lcm_tup (xs := p.map V.int) (fun _ => some (V.bl true)) hD (.of hT) hz (fun i x H1 hx e Y N y n => ?_) (fun H1 e hD1 => ?_)⟩
  · obtain ⟨k, hk, rfl⟩ := get_map hx
    have hkA := hin k (List.mem_of_getElem? hk)
    refine ⟨rfl, ?_⟩
    trivial
    refine ⟨_, _, rfl, .int k, ?_⟩
    trivial
    obtain ⟨v, ev, _⟩ := hK.d.bw k hkA
    refine ⟨l, _, rfl, DGet.k (k := Sum.inl k) (e _ _ hl), ?_⟩
    refine y _ _ (L2.Same.refl _) ?_
    rw [ev]
    rfl
  · obtain ⟨bs, e1, e2⟩ := map_bl (l := p.map V.int) (f := fun _ => some (V.bl true)) fun _ _ => rfl
    refine ⟨_, bs, rfl, SqL.of (by rw [hD1, e1]), ?_⟩
    rw [e2]
    trivial
    refine ⟨a, _, rfl, .inr (.of (e _ _ hT)), ?_⟩
    refine ⟨_, _, rfl, ⟨by decide, by decide, by omega, by rw [List.length_map]; omega⟩, fun D2 hD2 => ?_⟩
    refine lcm_range (n := ((((p.map V.int).length : Nat) : Int) - 1).toNat) (fun _ => some (V.bl true)) hD2 (by omega) (fun i H2 hi e3 Y N y n => ?_) (fun H2 e3 hD3 => ?_)
    · refine ⟨rfl, ?_⟩
      rw [List.length_map] at hi
      trivial
      obtain ⟨u, hu1, hu2⟩ := atI_ints (p := p) (k := 1 + (i : Int) - 1) (by omega) (by omega)
      obtain ⟨v, hv1, hv2⟩ := atI_ints (p := p) (k := 1 + (i : Int)) (by omega) (by omega)
      refine ⟨a, _, _, _, rfl, rfl, .of (e3 _ _ (e _ _ hT)), hu2, ?_⟩
      trivial
      refine ⟨a, _, _, _, rfl, rfl, .of (e3 _ _ (e _ _ hT)), hv2, ?_⟩
      trivial
      refine y _ _ (L2.Same.refl _) ?_
      have hle : u < v := by
        have e4 : (1 + (i : Int)).toNat = i + 1 := by omega
        have e5 : (1 + (i : Int) - 1).toNat = i := by omega
        rw [e4] at hv1
        rw [e5] at hu1
        obtain ⟨l1, l2⟩ := List.getElem?_eq_some_iff.mp hu1
        obtain ⟨l3, l4⟩ := List.getElem?_eq_some_iff.mp hv1
        have := List.pairwise_iff_getElem.mp hasc i (i + 1) l1 l3 (by omega)
        rw [l2, l4] at this
        exact this
      show some (V.bl true) = some (V.bl (decide (u < v)))
      rw [decide_eq_true hle]
    · obtain ⟨cs, e4, e5⟩ := map_bl (l := List.range ((((p.map V.int).length : Nat) : Int) - 1).toNat) (f := fun _ => some (V.bl true)) fun _ _ => rfl
      refine ⟨_, cs, rfl, SqL.of (by rw [hD3, e4]), ?_⟩
      rw [e5]
      exact q _ (e.trans e3)
theorem ok_row (F : Fun K "is_row" "is_row" s_is_row f fd) (B : Bi mg) (C_is_group : Cal P w K mg base CX0 2 "is_group" ["names", "thing"] spGroup) : FnOk P w K mg base CX0 3 f fd ["names", "pattern", "thing"] spRow := by
  refine F.ok sc_is_row (fun vs H Q E h => ?_) (fun cdv A outer s H vs Q E hr h => ?_)
  · obtain ⟨_, _, _, _, _, _, _, _, rfl, _⟩ := h
    rfl
  obtain ⟨l, pt, tr, t, n, AA, p, row, rfl, hL, hpt, hp, hpl, hrow, hok, hn, hA, q⟩ := h
  obtain ⟨xs, hT, ts⟩ := hrow.tup_ref
  have hlen : xs.length = row.length := by rw [ts.len, List.length_map]
  have hfl : row.flatten.length ≤ n := sub_len hok.nd fun x hx => by
    obtain ⟨g, hg, hx2⟩ := List.mem_flatten.mp hx
    exact hA x ((hok.grp g hg).2.2 x hx2)
  have hrl : row.length ≤ n := Nat.le_trans (len_flat fun g hg z => by have := (hok.grp g hg).2.1; rw [z] at this; simp at this) hfl
  have grp : ∀ i x, xs[i]? = some x → ∃ (ga : Addr) (g : List Int), row[i]? = some g ∧ x = V.ref ga ∧ H ga = some (.tup (g.map V.int)) ∧ g ∈ row := fun i x hx => by
    obtain ⟨g0, hg0, tg⟩ := ts.get hx
    obtain ⟨g, hg, rfl⟩ := get_map hg0
    obtain ⟨ga, rfl, hga⟩ := dI_at tg
    exact ⟨ga, g, hg, rfl, hga, List.mem_of_getElem? hg⟩
  have glen : ∀ g ∈ row, g.length ≤ n := fun g hg => sub_len (asc_nodup (hok.grp g hg).1) fun x hx => hA x ((hok.grp g hg).2.2 x hx)
  refine ⟨_, (pss_cons (ps_if (PW.pt (pw_or (pt_not (pt_val (pe_callB call_isi (by rfl) B.isinstance_ (by decide +kernel) (pa_cons (pv 2) (pa_cons (pe_bltn (v := .ty "tuple") (by rfl) B.tuple_ (by decide +kernel) rfl) pa_nil))))) (pw_or1 (pt_not (pt_val (pe_callB (cr_all rfl) (by rfl) B.all_ (by decide +kernel) (pa_cons (pe_lc (own := [("group", 4)]) rfl sc_is_row.nd (pi_tup (pv 2)) (blkOk_by (own := [("group", 4)]) (N := ["names", "pattern", "thing", "met", "group", "name", "at"]) (sc := defScope s_is_row) (by decide +kernel)) (fun _ _ _ _ _ => (pg_name (i := 4) sc_is_row.nd rfl (Or.inl rfl))) (fun _ _ _ _ _ => pts_nil) (fun _ _ _ _ _ => (pe_callC C_is_group (hr.mono (by decide)) (by rfl) pass0 (pa_cons (pv 0) (pa_cons (pv 4) pa_nil))))) pa_nil)))))))
        (pss_one (ps_ret pe_bl))
        pss_nil)
      (pss_cons (ps_set (i := 3) sc_is_row.nd rfl (Or.inr rfl) (pe_lc2 (own := [("group", 4), ("name", 5)]) (vs1 := [5]) rfl sc_is_row.nd (pi_tup (pv 2)) (blkOk_by (own := [("group", 4), ("name", 5)]) (N := ["names", "pattern", "thing", "met", "group", "name", "at"]) (sc := defScope s_is_row) (by decide +kernel)) (by decide) (fun _ _ _ _ _ => (pg_name (i := 4) sc_is_row.nd rfl (Or.inl rfl))) (fun _ _ _ _ _ => pts_nil) (fun _ _ _ _ _ => (pi_tupK K rfl (pv 4))) (fun _ _ _ _ _ => (pg_name (i := 5) sc_is_row.nd rfl (Or.inl rfl))) (fun _ _ _ _ _ => pts_nil) (fun _ _ _ _ _ => (pv 5))))
      (pss_cons (ps_if (PW.pt (pw_or (pt_cmpR (op_neD (hu4_of hr)) (pe_lc (own := [("at", 6), ("name", 5)]) rfl sc_is_row.nd (pi_enum (by rfl) B.enumerate_ (pa_cons (pv 3) pa_nil)) (blkOk_by (own := [("at", 6), ("name", 5)]) (N := ["names", "pattern", "thing", "met", "group", "name", "at"]) (sc := defScope s_is_row) (by decide +kernel)) (fun _ _ _ _ _ => (pg_tupK (n := 2) K rfl rfl (pgs_cons (pg_name (i := 6) sc_is_row.nd rfl (Or.inl rfl)) (pgs_cons (pg_name (i := 5) sc_is_row.nd rfl (Or.inl rfl)) pgs_nil)))) (fun _ _ _ _ _ => (pts_one (pt_cmpR (op_in_seqK K rfl) (pv 5) (pe_slice (sl_listK K rfl) (pv 3) po_none (po_some (pv 6))) (by rfl)))) (fun _ _ _ _ _ => (pv 5))) (pe_lst pa_nil) (nomark _)) (pw_or1 (pt_cmpR (op_neD (hu4_of hr)) (pv 2) (pe_callTy call_tuple_of (by rfl) B.tuple_ (by decide +kernel) (pa_cons (pe_callB (cr_sortTT (hu4_of hr)) (by rfl) B.sorted_ (by decide +kernel) (pa_cons (pv 2) pa_nil)) pa_nil)) (nomark _)))))
        (pss_one (ps_ret pe_bl))
        pss_nil)
      (pss_one (ps_ret (pe_cmpR (op_eqD (hu4_of hr)) (pe_callTy call_tuple_of (by rfl) B.tuple_ (by decide +kernel) (pa_cons (pe_revL (pe_callB cr_sortedI (by rfl) B.sorted_ (by decide +kernel) (pa_cons (pe_lc (own := [("group", 4)]) rfl sc_is_row.nd (pi_tup (pv 2)) (blkOk_by (own := [("group", 4)]) (N := ["names", "pattern", "thing", "met", "group", "name", "at"]) (sc := defScope s_is_row) (by decide +kernel)) (fun _ _ _ _ _ => (pg_name (i := 4) sc_is_row.nd rfl (Or.inl rfl))) (fun _ _ _ _ _ => pts_nil) (fun _ _ _ _ _ => (pe_callB (call_len_seqK K rfl) (by rfl) B.len_ (by decide +kernel) (pa_cons (pv 4) pa_nil)))) pa_nil))) pa_nil)) (pv 1) (nomark _)))))))
   , ?_⟩
  trivial
  obtain ⟨ty, tx, hk⟩ := isi_tup (K := K) hrow
  refine ⟨_, _, _, _, _, rfl, .ty _, tx, hk, ?_⟩
  trivial
  have hz : xs.length ≤ sizeLine := small_ (by omega)
  refine ⟨⟨_, .of hT⟩, fun D hD => lcm_tup (xs := xs) (fun _ => some (V.bl true)) hD (.of hT) hz (fun i x H1 hx e Y N y _ => ?_) (fun H1 e hD1 => ?_)⟩
  · obtain ⟨ga, g, hg, rfl, hga, hgr⟩ := grp i x hx
    refine ⟨rfl, ?_⟩
    trivial
    have hL1 : LinesAt H1 l AA t := let ⟨kvs, a, b⟩ := hL; ⟨kvs, e _ _ a, b.same e⟩
    refine ⟨l, ga, t, AA, g, rfl, hL1, e _ _ hga, Nat.le_trans (glen g hgr) (by omega), (hok.grp g hgr).1, (hok.grp g hgr).2.2, fun H2 e2 => ?_⟩
    exact y _ _ e2 rfl
  obtain ⟨bs, e1, e2⟩ := map_bl (l := xs) (f := fun _ => some (V.bl true)) fun _ _ => rfl
  refine ⟨_, bs, rfl, SqL.of (by rw [hD1, e1]), ?_⟩
  rw [e2]
  trivial
  have hT1 := e _ _ hT
  refine ⟨⟨_, .of hT1⟩, fun M hM => ?_⟩
  -- met
  refine it_body (walk_tup (K := K) (xs := xs)) (fun i H2 => Same H1 H2 ∧ H2 M = some (.lst ((row.take i).flatten.map V.int))) ⟨L2.Same.of_new hM _, by rw [upd_same]; simp⟩ (fun i H2 hi h => .of (h.1 _ _ hT1)) (fun i x H2 H2' hi h hy => ?_) (fun H2 h => ?_)
  · obtain ⟨rfl, hx⟩ := hy
    obtain ⟨ga, g, hg, rfl, hga, hgr⟩ := grp i x hx
    have hg1 := h.1 _ _ (e _ _ hga)
    refine ⟨rfl, ?_⟩
    trivial
    refine ⟨⟨_, .of hg1⟩, ?_⟩
    refine it_body (walk_tup (K := K) (xs := g.map V.int)) (fun j H3 => Same H1 H3 ∧ H3 M = some (.lst (((row.take i).flatten ++ g.take j).map V.int))) ⟨h.1, by rw [h.2, List.take_zero, List.append_nil]⟩ (fun j H3 hj h => .of (h.1 _ _ (e _ _ hga))) (fun j x H3 H3' hj h hy => ?_) (fun H3 h => ?_)
    · obtain ⟨rfl, hx⟩ := hy
      obtain ⟨k, hk, rfl⟩ := get_map hx
      refine ⟨rfl, ?_⟩
      trivial
      refine ⟨_, h.2, ?_, h.1.set hM _, ?_⟩
      · have : ((row.take i).flatten ++ g.take j).length ≤ row.flatten.length := by
          have z := flat_take hg
          have z2 := (List.take_sublist (i + 1) row).flatten_len
          rw [z, List.length_append] at z2
          rw [List.length_append, List.length_take]
          omega
        rw [List.length_map]
        exact small_lt (by omega)
      · rw [upd_same, take_snoc hk, ← List.append_assoc, List.map_append (l₁ := (row.take i).flatten ++ g.take j)]
        rfl
    · refine ⟨h.1, ?_⟩
      rw [h.2, List.length_map, List.take_length, flat_take hg]
  obtain ⟨eM, hM2⟩ := h
  rw [List.take_of_length_le (by omega)] at hM2
  have eH := e.trans eM
  trivial
  refine ⟨_, _, rfl, .of hM2, fun D3 hD3 => ?_⟩
  -- names met twice: none
  refine it_body (walk_enum (K := K) (xs := row.flatten.map V.int)) (fun i H3 => Same H2 H3 ∧ H3 D3 = some (.lst [])) ⟨L2.Same.of_new hD3 _, upd_same⟩ (fun i H3 hi h => .of (h.1 _ _ hM2)) (fun i x H3 H3' hi h hy => ?_) (fun H3 h => ?_)
  · obtain ⟨T, u, v, rfl, hT3, rfl, hu, hv⟩ := hy
    cases hu
    obtain ⟨k, hk, rfl⟩ := get_map hv
    have e5 : Same H2 (upd H3 T (.tup [.int (i : Nat), .int k])) := h.1.put hT3 _
    have hD5 : upd H3 T (.tup [.int (i : Nat), .int k]) D3 = some (.lst []) := by rw [upd_ne (ne_of_none h.2 hT3)]; exact h.2
    refine ⟨T, _, rfl, .of upd_same, rfl, ?_⟩
    trivial
    refine ⟨rfl, ?_⟩
    trivial
    refine ⟨M, _, rfl, .of (e5 _ _ hM2), fun L hL5 => ?_⟩
    refine ⟨L, _, rfl, .inl (.of upd_same), rfl, ?_, ?_⟩
    · have := flat_ints ((row.flatten).take i)
      rw [cut_to (by omega), ← List.map_take]
      exact this
    · have hno : inV (V.int k) (cutV (row.flatten.map V.int) none (some (i : Int))) = false := by
        rw [cut_to (by omega), ← List.map_take, inV_ints]
        refine decide_eq_false fun z => ?_
        obtain ⟨j, hj, ej⟩ := List.mem_take_iff_getElem.mp z
        obtain ⟨l2, e2⟩ := List.getElem?_eq_some_iff.mp hk
        have := List.pairwise_iff_getElem.mp hok.nd j i (by omega) l2 (by omega)
        exact this (by rw [ej, e2])
      refine ⟨_, rfl, ?_⟩
      rw [hno]
      refine iteF ?_
      have hs : Same H2 (upd (upd H3 T (.tup [.int (i : Nat), .int k])) L (.lst (cutV (row.flatten.map V.int) none (some (i : Int))))) := e5.put hL5 _
      exact ⟨hs, by rw [upd_ne (ne_of_none hD5 hL5)]; exact hD5⟩
  · obtain ⟨e6, hD6⟩ := h
    refine ⟨(by show 0 ≤ sizeLine; decide), fun N hN => ?_⟩
    have e7 := e6.put hN (.lst [])
    refine ⟨.list [], .list [], .lst (.of (by rw [upd_ne (ne_of_none hD6 hN)]; exact hD6)) .nil, .lst (.of upd_same) .nil, rfl, rfl, ?_⟩
    have eH7 := eH.trans e7
    refine ⟨_, rfl, ?_⟩
    rw [show (!PyData.eqv (.list []) (.list [])) = false from rfl]
    refine iteF ?_
    trivial
    have hzip1 : (xs.zip row).map (·.1) = xs := List.map_fst_zip (by omega)
    have hzip2 : (xs.zip row).map (·.2) = row := List.map_snd_zip (by omega)
    refine ⟨tr, xs.zip row, rfl, by rw [hzip1]; exact .of (eH7 _ _ hT), fun pr hpr => ?_, fun S hS => ?_⟩
    · obtain ⟨j, hj⟩ := List.mem_iff_getElem?.mp hpr
      have h1 : xs[j]? = some pr.1 := by
        have z := congrArg (fun l => l[j]?) hzip1
        simp only [List.getElem?_map, hj] at z
        exact z.symm
      have h2 : row[j]? = some pr.2 := by
        have z := congrArg (fun l => l[j]?) hzip2
        simp only [List.getElem?_map, hj] at z
        exact z.symm
      obtain ⟨ga, g, hg, e1, hga, hgr⟩ := grp j _ h1
      rw [hg] at h2
      cases h2
      rw [e1]
      exact ⟨dp_tup (.of (eH7 _ _ hga)), fun z => by have := (hok.grp _ hgr).2.1; rw [z] at this; simp at this⟩
    · have hsrt : (xs.zip row).mergeSort (fun x y => leG x.2 y.2) = xs.zip row := by
        refine List.mergeSort_of_pairwise ?_
        have z := hok.srt
        rw [← hzip2, List.pairwise_map] at z
        exact z
      rw [hsrt, hzip1]
      have e8 := eH7.put hS (.lst xs)
      refine ⟨S, xs, rfl, .inl ⟨.of upd_same, fun t1 ht1 => ?_⟩⟩
      have e9 := e8.put ht1 (.tup xs)
      have hbd : Bd 2 (rowD row) := Bd.tup.mpr fun d hd => by
        obtain ⟨g, _, rfl⟩ := List.mem_map.mp hd
        exact Bd.dI g
      refine ⟨rowD row, rowD row, (hrow.mono e9.ts).dp, (Tps.mk' upd_same (ts.mono e9.ts)).dp, hbd.shaped (by decide), hbd.shaped (by decide), ?_⟩
      rw [eqv_same hbd]
      trivial
      have hT9 := e9 _ _ hT
      refine ⟨⟨_, .of hT9⟩, fun D4 hD4 => lcm_tup (xs := xs) (fun v => match v with | .ref q => (match H q with | some (.tup ys) => some (.int (ys.length : Nat)) | _ => none) | _ => none) hD4 (.of hT9) hz (fun i x Hx hx ex Y N y _ => ?_) (fun Hx ex hD5 => ?_)⟩
      · obtain ⟨ga, g, hg, rfl, hga, hgr⟩ := grp i x hx
        refine ⟨rfl, ?_⟩
        trivial
        refine ⟨ga, _, rfl, .inr (.of (ex _ _ (e9 _ _ hga))), ?_⟩
        refine y _ _ (L2.Same.refl _) ?_
        simp only [hga]
      · have hlens : xs.filterMap (fun v => match v with | .ref q => (match H q with | some (.tup ys) => some (V.int (ys.length : Nat)) | _ => none) | _ => none) = (row.map fun g => (g.length : Int)).map V.int := by
          refine filterMap_by (by simp [hlen]) fun j x hx => ?_
          obtain ⟨ga, g, hg, rfl, hga, hgr⟩ := grp j x hx
          simp only [hga, List.length_map, List.getElem?_map, hg, Option.map_some]
        rw [hlens] at hD5
        refine ⟨D4, _, rfl, .of hD5, fun ns' S2 hperm hsort hS2 => ?_⟩
        have f1 := ex.put hS2 (.lst (ns'.map V.int))
        refine ⟨S2, _, rfl, .of upd_same, fun S3 hS3 => ?_⟩
        have f2 := f1.put hS3 (.lst (ns'.map V.int).reverse)
        refine ⟨S3, _, rfl, .inl ⟨.of upd_same, fun t2 ht2 => ?_⟩⟩
        have f3 := f2.put ht2 (.tup (ns'.map V.int).reverse)
        have f4 := e9.trans f3
        trivial
        have hrev : ns'.reverse = p := by
          refine List.Perm.eq_of_pairwise (le := fun a b => a ≥ b) (fun a b _ _ h1 h2 => by omega) ?_ hp ((List.reverse_perm _).trans (hperm.trans hok.sz))
          exact List.pairwise_reverse.mpr hsort
        have ht2' : (upd (upd (upd Hx S2 (.lst (ns'.map V.int))) S3 (.lst (ns'.map V.int).reverse)) t2 (.tup (ns'.map V.int).reverse)) t2 = some (.tup (p.map V.int)) := by
          rw [upd_same, ← List.map_reverse, hrev]
        refine ⟨dI p, dI p, dp_tup (.of ht2'), dp_tup (.of (f4 _ _ hpt)), (Bd.dI (m := 0) p).shaped (by decide), (Bd.dI (m := 0) p).shaped (by decide), ?_⟩
        rw [eqv_same (Bd.dI (m := 0) p)]
        exact q _ (f4)
end
end G93

set_option Elab.async false
set_option linter.all false
set_option maxRecDepth 100000
set_option maxHeartbeats 4000000
/-! shapes in a dict -/
namespace G93
open PySem PySem.Spec PyProof.Rows L2
def RT (H : Hp) (f : Int → PyData) (x : Int) (v : V) : Prop := Tp H v (f x)
def look (kvs : List (Key × V)) : V → Option V
  | .int x => valV kvs (Sum.inl x)
  | _ => none
theorem DG.ts {H H' : Hp} {f : Int → PyData} {kvs : List (Key × V)} {A : Int → Prop} (d : DG (RT H f) kvs A) (e : TS H H') : DG (RT H' f) kvs A := d.imp fun x v _ r => r.mono e
theorem DG.looks {H : Hp} {f : Int → PyData} {kvs : List (Key × V)} {A : Int → Prop} (d : DG (RT H f) kvs A) : ∀ {g : List Int}, (∀ x ∈ g, A x) → Tps H ((g.map V.int).filterMap (look kvs)) (g.map f)
  | [], _ => .nil
  | x :: g, h => by
    obtain ⟨v, ev, r⟩ := d.bw x (h x List.mem_cons_self)
    have ev2 : look kvs (V.int x) = some v := ev
    rw [List.map_cons, List.map_cons, List.filterMap_cons, ev2]
    exact .cons r (d.looks fun y hy => h y (List.mem_cons_of_mem _ hy))
theorem forest_snoc (s : List Int × (Int → PyData)) (gs : List (List Int)) (g : List Int) : forest s (gs ++ [g]) = (joinD (forest s gs).1 g, joinF (forest s gs).2 g) := by
  unfold forest
  rw [List.foldl_append]
  rfl
theorem forest_dom : ∀ (gs : List (List Int)) (s : List Int × (Int → PyData)), (forest s gs).1 = domAfter s.1 gs
  | [], _ => rfl
  | g :: gs, s => forest_dom gs (joinD s.1 g, joinF s.2 g)
theorem joins_at : ∀ {gs : List (List Int)} {g : List Int} {hs : List (List Int)} {dom : List Int}, JoinsOk dom (gs ++ g :: hs) → GOk (domAfter dom gs) g
  | [], _, _, _, h => h.1
  | _ :: gs, _, _, _, h => joins_at (gs := gs) h.2
theorem domAfter_asc : ∀ {gs : List (List Int)} {dom : List Int}, dom.Pairwise (· < ·) → (domAfter dom gs).Pairwise (· < ·)
  | [], _, h => h
  | _ :: gs, _, h => domAfter_asc (gs := gs) (h.sublist List.filter_sublist)
theorem domAfter_sub {gs : List (List Int)} {dom : List Int} {x : Int} (h : x ∈ domAfter dom gs) : x ∈ dom := (domAfter_mem.mp h).1
/-- the joint in the place of its first -/
theorem DG.join {H H' : Hp} {f : Int → PyData} {kvs : List (Key × V)} {dom : List Int} {g : List Int} {v : V} (G : GOk dom g) (d : DG (RT H f) kvs (fun x => x ∈ dom ∧ x ∉ g)) (e : TS H H') (t : Tp H' v (.tuple (g.map f))) :
    DG (RT H' (joinF f g)) (putK kvs (Sum.inl (g.headD 0)) v) (fun x => x ∈ joinD dom g) := by
  obtain ⟨a, b, r, rfl⟩ := head_tail G.two
  have hasc := List.pairwise_cons.mp G.asc
  refine (d.put (x := a) (v := v) (R' := RT H' (joinF f (a :: b :: r))) ?_ fun y u hy hne ru => ?_).congr fun x => ?_
  · show Tp H' v (joinF f (a :: b :: r) a)
    unfold joinF
    rw [if_pos (show a = (a :: b :: r).headD 0 from rfl)]
    exact t
  · show Tp H' u (joinF f (a :: b :: r) y)
    unfold joinF
    rw [if_neg (show ¬ y = (a :: b :: r).headD 0 from hne)]
    exact Tp.mono e ru
  · rw [joinD_mem]
    show ((x ∈ dom ∧ x ∉ a :: b :: r) ∨ x = a) ↔ x ∈ dom ∧ x ∉ (b :: r)
    constructor
    · rintro (h | h)
      · exact ⟨h.1, fun z => h.2 (List.mem_cons_of_mem _ z)⟩
      · subst h
        exact ⟨G.mem x List.mem_cons_self, fun z => by have := hasc.1 x z; omega⟩
    · rintro ⟨h1, h2⟩
      by_cases hx : x = a
      · exact .inr hx
      · refine .inl ⟨h1, fun z => ?_⟩
        rcases List.mem_cons.mp z with z | z
        · exact hx z
        · exact h2 z
theorem DG.start {H : Hp} : DG (RT H PyData.int) [] (fun x => x ∈ dom0 0) := DG.emp.congr fun x => ⟨fun h => h.elim, fun h => by have := mem_dom0.mp h; omega⟩
theorem DG.step {H H' : Hp} {kvs : List (Key × V)} {i : Nat} (d : DG (RT H PyData.int) kvs (fun x => x ∈ dom0 i)) (e : TS H H') : DG (RT H' PyData.int) (putK kvs (Sum.inl (i : Int)) (.int i)) (fun x => x ∈ dom0 (i + 1)) := by
  refine (d.put (x := (i : Int)) (v := .int i) (R' := RT H' PyData.int) (.int _) fun y u hy hne ru => Tp.mono e ru).congr fun x => ?_
  show (x ∈ dom0 i ∨ x = i) ↔ _
  rw [mem_dom0, mem_dom0]
  omega
theorem pop_take {kvs : List (Key × V)} {R : Int → V → Prop} {A : Int → Prop} {g : List Int} {j : Nat} {k : Int} (d : DG R kvs (fun x => A x ∧ x ∉ g.take j)) (hk : g[j]? = some k) : DG R (dropK kvs (Sum.inl k)) (fun x => A x ∧ x ∉ g.take (j + 1)) := by
  refine (d.pop k).congr fun x => ?_
  rw [List.take_add_one, hk]
  simp only [Option.toList_some, List.mem_append, List.mem_singleton, not_or]
  exact and_assoc
end G93

set_option Elab.async false
set_option linter.all false
set_option maxRecDepth 100000
set_option maxHeartbeats 4000000
/-! trees, and the wood of a tree -/
namespace G93
open PySem PySem.Spec PyProof.Rows L2
local macro_rules | `(tactic| trivial) => `(tactic| (repeat (first | refine ⟨_, rfl, ?_⟩ | refine ⟨_, _, rfl, rfl, ?_⟩ | refine .inl ⟨_, rfl, ?_⟩ | refine ⟨_, _, rfl, ?_⟩)))
abbrev s_first_bad : Stmt := top 15
theorem sc_first_bad : FnScope ["calendar", "rows", "lines", "d", "row"] ["calendar", "rows"] (defScope s_first_bad) := ⟨rfl, rfl, rfl, by decide +kernel, rfl, by decide +kernel, by decide +kernel⟩
abbrev s_want_tree : Stmt := top 16
theorem sc_want_tree : FnScope ["calendar", "rows", "found"] ["calendar", "rows"] (defScope s_want_tree) := ⟨rfl, rfl, rfl, by decide +kernel, rfl, by decide +kernel, by decide +kernel⟩
abbrev s_shape_of : Stmt := top 20
theorem sc_shape_of : FnScope ["calendar", "tree", "shapes", "row", "group", "joint", "name", "x"] ["calendar", "tree"] (defScope s_shape_of) := ⟨rfl, rfl, rfl, by decide +kernel, rfl, by decide +kernel, by decide +kernel⟩
theorem at_split {α : Type} {l : List α} {i : Nat} {x : α} (h : l[i]? = some x) : l = l.take i ++ x :: l.drop (i + 1) := by
  obtain ⟨h1, h2⟩ := List.getElem?_eq_some_iff.mp h
  have z := (List.take_append_drop i l).symm
  rw [List.drop_eq_getElem_cons h1, h2] at z
  exact z
theorem flat_at {rows : List (List (List Int))} {row : List (List Int)} {g : List Int} {i j : Nat} (h : rows[i]? = some row) (h2 : row[j]? = some g) :
    rows.flatten = ((rows.take i).flatten ++ row.take j) ++ g :: (row.drop (j + 1) ++ (rows.drop (i + 1)).flatten) := by
  have e : rows.flatten = (rows.take i ++ row :: rows.drop (i + 1)).flatten := congrArg List.flatten (at_split h)
  have e2 : row ++ (rows.drop (i + 1)).flatten = (row.take j ++ g :: row.drop (j + 1)) ++ (rows.drop (i + 1)).flatten := congrArg (· ++ (rows.drop (i + 1)).flatten) (at_split h2)
  rw [e, List.flatten_append, List.flatten_cons, e2]
  simp only [List.append_assoc, List.cons_append]
def treeD (rows : List (List (List Int))) : PyData := .tuple (rows.map rowD)
/-- a calendar and a tree over it -/
def CT (C : Addr) (H : Hp) (c tr vb vd : Addr) (born : List Int) (days : List (List Int)) (rows : List (List (List Int))) : Prop :=
  CalIns C H c vb vd ∧ CalAt H vb vd born days ∧ CalOk born days ∧ Tp H (.ref tr) (treeD rows) ∧ TreeOk born 0 (fun _ => False) days rows
def spTree (C : Addr) : Sp := fun vs H Q _ => ∃ (c tr vb vd : Addr) (born : List Int) (days : List (List Int)) (rows : List (List (List Int))), vs = [.ref c, .ref tr] ∧ CT C H c tr vb vd born days rows ∧ ∀ H', Same H H' → Q .non H'
def woodIn (n : Nat) (gs : List (List Int)) : PyData := woodOf (forest (dom0 n, PyData.int) gs)
def spShape (C : Addr) : Sp := fun vs H Q _ => ∃ (c tr vb vd : Addr) (born : List Int) (days : List (List Int)) (rows : List (List (List Int))), vs = [.ref c, .ref tr] ∧ CT C H c tr vb vd born days rows ∧
  ∀ r H', Same H H' → Tp H' (.ref r) (woodIn born.length rows.flatten) → Q (.ref r) H'
theorem CalIns.same {C : Addr} {H H' : Hp} {c vb vd : Addr} (h : CalIns C H c vb vd) (e : Same H H') : CalIns C H' c vb vd := let ⟨dx, h⟩ := h; ⟨dx, e _ _ h⟩
theorem CT.same {C : Addr} {H H' : Hp} {c tr vb vd : Addr} {born : List Int} {days : List (List Int)} {rows : List (List (List Int))} (h : CT C H c tr vb vd born days rows) (e : Same H H') : CT C H' c tr vb vd born days rows :=
  ⟨h.1.same e, h.2.1.mono e.ts, h.2.2.1, h.2.2.2.1.mono e.ts, h.2.2.2.2⟩
theorem LinesAt.same {H H' : Hp} {a : Addr} {A : Int → Prop} {t : Nat} (h : LinesAt H a A t) (e : Same H H') : LinesAt H' a A t := let ⟨kvs, a, b⟩ := h; ⟨kvs, e _ _ a, b.same e⟩
section
variable {P : Program} {w : World} {K : PySem.W.Frag} {mg : Str → Option Value} {base : Heap} {f : Addr} {fd : FuncData}
theorem ok_first {C : Addr} (F : Fun K "first_bad" "first_bad" s_first_bad f fd) (B : Bi mg) (T : CalT K mg C) (C_with_newborn : Cal P w K mg base CX0 1 "with_newborn" ["calendar", "lines", "d"] (spBorn C))
    (C_is_row : Cal P w K mg base CX0 3 "is_row" ["names", "pattern", "thing"] spRow) (C_behind_row : Cal P w K mg base CX0 1 "behind_row" ["lines", "row"] spBehind) : FnOk P w K mg base CX0 4 f fd ["calendar", "rows"] (spTree C) := by
  refine F.ok sc_first_bad (fun vs H Q E h => ?_) (fun cdv A outer s H vs Q E hr h => ?_)
  · obtain ⟨_, _, _, _, _, _, _, rfl, _⟩ := h
    rfl
  obtain ⟨c, tr, vb, vd, born, days, rows, rfl, ⟨hI, hC, hO, hTr, hOk⟩, q⟩ := h
  obtain ⟨xs, hT, ts⟩ := hTr.tup_ref
  obtain ⟨ys, hTd, tsd⟩ := hC.d.tup_ref
  have hhi := hO.hi
  have hdl := hO.dl
  have hrl := hOk.len
  have hlen : xs.length = rows.length := by rw [ts.len, List.length_map]
  refine ⟨_, (pss_cons (ps_set (i := 2) sc_first_bad.nd rfl (Or.inl rfl) pe_dnewK)
      (pss_cons (ps_for PassesOwn.never rfl (pi_enumT (by rfl) B.enumerate_ (pa_cons (pv 1) pa_nil)) (pg_tup rfl (pgs_cons (pg_name (i := 3) sc_first_bad.nd rfl (Or.inl rfl)) (pgs_cons (pg_name (i := 4) sc_first_bad.nd rfl (Or.inl rfl)) pgs_nil)))
        (pss_cons (ps_set (i := 2) sc_first_bad.nd rfl (Or.inl rfl) (pe_callC C_with_newborn (hr.mono (by decide)) (by rfl) pass0 (pa_cons (pv 0) (pa_cons (pv 2) (pa_cons (pv 3) pa_nil)))))
        (pss_cons (ps_if (pt_not (pt_val (pe_callC C_is_row (hr.mono (by decide)) (by rfl) pass0 (pa_cons (pv 2) (pa_cons (pe_ix ix_tup (pe_fld (pv 0) rfl) (pv 3) (fun _ _ => rfl)) (pa_cons (pv 4) pa_nil))))))
          (pss_one (ps_ret (pv 3)))
          pss_nil)
        (pss_one (ps_set (i := 2) sc_first_bad.nd rfl (Or.inl rfl) (pe_callC C_behind_row (hr.mono (by decide)) (by rfl) pass0 (pa_cons (pv 2) (pa_cons (pv 4) pa_nil))))))))
      (pss_one (ps_ret pe_non))))
   , ?_⟩
  intro l hl
  have e0 := L2.Same.of_new hl (.dK [])
  trivial
  refine ⟨_, _, rfl, .of (e0 _ _ hT), ?_⟩
  refine for_enumT (xs := xs) (fun i σ H1 => ∃ (l : Addr) (u v : Option V) (A : Int → Prop), σ = [some (.ref c), some (.ref tr), some (.ref l), u, v] ∧ Same H H1 ∧ LinesAt H1 l A (i * 12) ∧ TreeOk born i A (days.drop i) (rows.drop i) ∧ ∀ x, A x → x ∈ dom0 born.length)
    ⟨l, _, _, fun _ => False, rfl, e0, ⟨[], upd_same, DG.emp, by simp [wOf]⟩, by simpa using hOk, fun x h => h.elim⟩ (fun i σ H1 hi h => ?_) (fun i x T1 σ H1 hx h hT1 => ?_) (fun σ H1 h => ?_)
  · obtain ⟨_, _, _, _, rfl, e, _⟩ := h
    exact .of (e _ _ hT)
  · obtain ⟨l, u, v, AA, rfl, e, hL, hTO, hA⟩ := h
    obtain ⟨row0, hrow0, trow⟩ := ts.get hx
    obtain ⟨row, hrow, rfl⟩ := get_map hrow0
    have hi : i < rows.length := (List.getElem?_eq_some_iff.mp hrow).1
    obtain ⟨p, hp⟩ : ∃ p, days[i]? = some p := ⟨days[i], List.getElem?_eq_getElem (by omega)⟩
    rw [List.drop_eq_getElem_cons (by omega), List.drop_eq_getElem_cons hi, (List.getElem?_eq_some_iff.mp hrow).2, (List.getElem?_eq_some_iff.mp hp).2] at hTO
    obtain ⟨hR, hTO2⟩ := hTO
    obtain ⟨ra, _, rfl, hra, _⟩ := trow.tuple
    refine ⟨T1, _, rfl, .of upd_same, rfl, ?_⟩
    trivial
    have e2 := e.put hT1 (.tup [.int (i : Nat), .ref ra])
    refine ⟨c, l, vb, vd, i, i * 12, born.length, born, days, AA, rfl, hI.same e2, hC.mono e2.ts, Nat.le_refl _, by omega, hL.same (L2.Same.of_new hT1 _), by omega, hA, fun l2 H2 e3 hL2 => ?_⟩
    have hA2 : ∀ x, AA x ∨ NB born i x → x ∈ dom0 born.length := fun x hx => hx.elim (hA x) fun ⟨k, e1, e4⟩ => mem_dom0.mpr (by have := (List.getElem?_eq_some_iff.mp e4).1; omega)
    have e4 := e2.trans e3
    trivial
    obtain ⟨dx, hI2⟩ := hI.same e4
    refine ⟨c, C, dx, _, _, rfl, hI2, T.clC, T.nD, calF_days _ _, ?_⟩
    trivial
    obtain ⟨pv_, hpv, tpv⟩ := tsd.get' (i := i) (d := dI p) (by rw [List.getElem?_map, hp]; rfl)
    obtain ⟨pa, rfl, hpa⟩ := dI_at tpv
    refine ⟨vd, _, _, _, rfl, rfl, .of (e4 _ _ hTd), atI_nat hpv, ?_⟩
    trivial
    obtain ⟨hpo, hpl⟩ := hO.pat p (List.mem_of_getElem? hp)
    refine ⟨l2, pa, ra, _, born.length, _, p, row, rfl, hL2, e4 _ _ hpa, hpo.desc, hpl, trow.mono e4.ts, hR, by omega, hA2, fun H3 e5 => ?_⟩
    trivial
    have e6 := e4.trans e5
    refine ⟨l2, ra, _, born.length, _, p, row, rfl, hL2.same e5, by omega, by omega, hA2, trow.mono e6.ts, hR, fun l3 H4 e7 hL3 => ?_⟩
    refine ⟨l3, _, _, _, rfl, e6.trans e7, ?_, hTO2, fun x hx => hA2 x hx.1⟩
    obtain ⟨kvs, h1, h2⟩ := hL3
    exact ⟨kvs, h1, h2.d, by have := h2.w; omega⟩
  · obtain ⟨l, u, v, AA, rfl, e, _⟩ := h
    exact q _ e
theorem ok_want {C : Addr} (F : Fun K "want_tree" "want_tree" s_want_tree f fd) (B : Bi mg) (T : CalT K mg C) (C_first_bad : Cal P w K mg base CX0 4 "first_bad" ["calendar", "rows"] (spTree C)) : FnOk P w K mg base CX0 5 f fd ["calendar", "rows"] (spTree C) := by
  refine F.ok sc_want_tree (fun vs H Q E h => ?_) (fun cdv A outer s H vs Q E hr h => ?_)
  · obtain ⟨_, _, _, _, _, _, _, rfl, _⟩ := h
    rfl
  obtain ⟨c, tr, vb, vd, born, days, rows, rfl, hCT, q⟩ := h
  obtain ⟨⟨dx, hI⟩, hC, hO, hTr, hOk⟩ := id hCT
  obtain ⟨xs, hT, ts⟩ := hTr.tup_ref
  obtain ⟨ys, hTd, tsd⟩ := hC.d.tup_ref
  refine ⟨_, (pss_cons (ps_if (pt_cmpR op_ne (pe_callB call_len_seq (by rfl) B.len_ (by decide +kernel) (pa_cons (pv 1) pa_nil)) (pe_callB call_len_seq (by rfl) B.len_ (by decide +kernel) (pa_cons (pe_fld (pv 0) rfl) pa_nil)) (nomark _))
        (pss_one ps_never)
        pss_nil)
      (pss_cons (ps_set (i := 2) sc_want_tree.nd rfl (Or.inl rfl) (pe_callC C_first_bad (hr.mono (by decide)) (by rfl) pass0 (pa_cons (pv 0) (pa_cons (pv 1) pa_nil))))
      (pss_one (ps_if (pt_cmpR op_notN (pv 2) pe_non (nomark _))
        (pss_one ps_never)
        pss_nil))))
   , ?_⟩
  trivial
  refine ⟨tr, _, rfl, .inr (.of hT), ?_⟩
  trivial
  refine ⟨c, C, dx, _, _, rfl, hI, T.clC, T.nD, calF_days _ _, ?_⟩
  trivial
  refine ⟨vd, _, rfl, .inr (.of hTd), ?_⟩
  have hlen : xs.length = ys.length := by rw [ts.len, tsd.len, List.length_map, List.length_map, hOk.len]
  refine ⟨rfl, _, rfl, ?_⟩
  rw [hlen, decide_eq_true rfl]
  trivial
  refine ⟨c, tr, vb, vd, born, days, rows, rfl, hCT, fun H1 e1 => ?_⟩
  trivial
  refine ⟨rfl, _, rfl, ?_⟩
  rw [decide_eq_true rfl]
  exact q _ e1
theorem ok_shape {C : Addr} (F : Fun K "shape_of" "shape_of" s_shape_of f fd) (B : Bi mg) (T : CalT K mg C) (C_want_tree : Cal P w K mg base CX0 5 "want_tree" ["calendar", "rows"] (spTree C)) : FnOk P w K mg base CX0 6 f fd ["calendar", "tree"] (spShape C) := by
  refine F.ok sc_shape_of (fun vs H Q E h => ?_) (fun cdv A outer s H vs Q E hr h => ?_)
  · obtain ⟨_, _, _, _, _, _, _, rfl, _⟩ := h
    rfl
  obtain ⟨c, tr, vb, vd, born, days, rows, rfl, hCT, q⟩ := h
  obtain ⟨_, _, hO, _, hOk⟩ := id hCT
  have hhi := hO.hi
  have hJ := tree_joins0 hOk
  refine ⟨_, (pss_cons (ps_expr (pe_callC C_want_tree (hr.mono (by decide)) (by rfl) pass0 (pa_cons (pv 0) (pa_cons (pv 1) pa_nil))))
      (pss_cons (ps_set (i := 2) sc_shape_of.nd rfl (Or.inr rfl) (pe_dc (own := [("x", 7)]) (g := gName 7) (tt := tYes) rfl sc_shape_of.nd (pi_range1 (by rfl) B.range_ (pa_cons (pe_callB call_len_seq (by rfl) B.len_ (by decide +kernel) (pa_cons (pe_fld (pv 0) rfl) pa_nil)) pa_nil)) (blkOk_by (N := ["calendar", "tree", "shapes", "row", "group", "joint", "name", "x"]) (sc := defScope s_shape_of) (by decide +kernel)) (fun _ _ _ _ _ => pg_name (i := 7) sc_shape_of.nd rfl (Or.inl rfl)) (fun _ _ _ _ _ => pts_nil) (fun _ _ _ _ _ => (pv 7)) (fun _ _ _ _ _ => (pv 7))))
      (pss_cons (ps_for PassesOwn.never rfl (pi_tup (pv 1)) (pg_name (i := 3) sc_shape_of.nd rfl (Or.inl rfl))
        (pss_one (ps_for PassesOwn.never rfl (pi_tup (pv 3)) (pg_name (i := 4) sc_shape_of.nd rfl (Or.inl rfl))
          (pss_cons (ps_set (i := 5) sc_shape_of.nd rfl (Or.inl rfl) (pe_callTy call_tuple_of (by rfl) B.tuple_ (by decide +kernel) (pa_cons (pe_lc (own := [("name", 6)]) rfl sc_shape_of.nd (pi_tup (pv 4)) (blkOk_by (own := [("name", 6)]) (N := ["calendar", "tree", "shapes", "row", "group", "joint", "name", "x"]) (sc := defScope s_shape_of) (by decide +kernel)) (fun _ _ _ _ _ => (pg_name (i := 6) sc_shape_of.nd rfl (Or.inl rfl))) (fun _ _ _ _ _ => pts_nil) (fun _ _ _ _ _ => (pe_dget (hu_of hr) (pv 2) (pv 6) (fun _ _ => rfl)))) pa_nil)))
          (pss_cons (ps_for PassesOwn.never rfl (pi_tup (pv 4)) (pg_name (i := 6) sc_shape_of.nd rfl (Or.inl rfl))
            (pss_one (ps_expr (pe_dpop1 (pv 2) (pv 6) (m1_of (by rfl) (by rfl))))))
          (pss_one (ps_dput (hu_of hr) (pv 2) (pe_ix ix_tup (pv 4) pe_int (fun _ _ => rfl)) (pv 5) rfl)))))))
      (pss_one (ps_ret (pe_callTy call_tuple_of (by rfl) B.tuple_ (by decide +kernel) (pa_cons (pe_lc (own := [("name", 6)]) rfl sc_shape_of.nd (pi_list (pe_callB (call_sortedDI rfl) (by rfl) B.sorted_ (by decide +kernel) (pa_cons (pv 2) pa_nil))) (blkOk_by (own := [("name", 6)]) (N := ["calendar", "tree", "shapes", "row", "group", "joint", "name", "x"]) (sc := defScope s_shape_of) (by decide +kernel)) (fun _ _ _ _ _ => (pg_name (i := 6) sc_shape_of.nd rfl (Or.inl rfl))) (fun _ _ _ _ _ => pts_nil) (fun _ _ _ _ _ => (pe_dget (hu_of hr) (pv 2) (pv 6) (fun _ _ => rfl)))) pa_nil)))))))
   , ?_⟩
  trivial
  refine ⟨c, tr, vb, vd, born, days, rows, rfl, hCT, fun H0 e0 => ?_⟩
  obtain ⟨⟨dx, hI⟩, hC, _, hTr, _⟩ := hCT.same e0
  obtain ⟨xs, hT, ts⟩ := hTr.tup_ref
  have hlen : xs.length = rows.length := by rw [ts.len, List.length_map]
  trivial
  refine ⟨c, C, dx, _, _, rfl, hI, T.clC, T.nB, calF_born _ _, ?_⟩
  trivial
  refine ⟨vb, _, rfl, .inr hC.b.sqT, ?_⟩
  refine ⟨_, rfl, by omega, by rw [List.length_map]; omega, fun D hD => ?_⟩
  rw [Int.toNat_natCast, List.length_map]
  refine it_body (walk_range (n := born.length)) (fun i H1 => Same H0 H1 ∧ ∃ kvs, H1 D = some (.dK kvs) ∧ DG (RT H1 PyData.int) kvs (fun x => x ∈ dom0 i)) ⟨L2.Same.of_new hD _, [], upd_same, DG.start⟩ (fun _ _ _ _ => True.intro) (fun i x H1 H1' hi h hy => ?_) (fun H1 h => ?_)
  · obtain ⟨rfl, rfl⟩ := hy
    obtain ⟨e, kvs, hd, hdg⟩ := h
    refine ⟨rfl, ?_⟩
    trivial
    have hz : kvs.length ≤ i := hdg.len fun x hx => hx
    refine ⟨kvs, Sum.inl (0 + (i : Int)), rfl, hd, small_lt (by omega), e.set hD _, _, upd_same, ?_⟩
    show DG (RT (upd H1' D (.dK (putK kvs (Sum.inl (0 + (i : Int))) (V.int (0 + (i : Int)))))) PyData.int) (putK kvs (Sum.inl (0 + (i : Int))) (V.int (0 + (i : Int)))) (fun x => x ∈ dom0 (i + 1))
    rw [Int.zero_add]
    exact hdg.step (TS.updD hd _)
  · obtain ⟨e, kvs, hd, hdg⟩ := h
    trivial
    have hT1 := e _ _ hT
    refine ⟨⟨_, .of hT1⟩, ?_⟩
    refine for_tup (xs := xs) (fun i σ H2 => ∃ (u v z y : Option V), σ = [some (.ref c), some (.ref tr), some (.ref D), u, v, z, y, none] ∧ Same H0 H2 ∧ ∃ kvs, H2 D = some (.dK kvs) ∧ DG (RT H2 (forest (dom0 born.length, PyData.int) (rows.take i).flatten).2) kvs (fun x => x ∈ (forest (dom0 born.length, PyData.int) (rows.take i).flatten).1))
      ⟨_, _, _, _, rfl, e, kvs, hd, hdg⟩ (fun i σ H2 hi h => ?_) (fun i x σ H2 hx h => ?_) (fun σ H2 h => ?_)
    · obtain ⟨_, _, _, _, rfl, e, _⟩ := h
      exact .of (e _ _ hT)
    · obtain ⟨_, _, _, _, rfl, e, kvs, hd, hdg⟩ := h
      obtain ⟨row0, hrow0, trow⟩ := ts.get hx
      obtain ⟨row, hrow, rfl⟩ := get_map hrow0
      obtain ⟨ra, zs, rfl, hra, tz⟩ := trow.tuple
      have hzl : zs.length = row.length := by rw [tz.len, List.length_map]
      trivial
      refine ⟨⟨_, .of (e _ _ hra)⟩, ?_⟩
      refine for_tup (xs := zs) (fun j σ H3 => ∃ (v z y : Option V), σ = [some (.ref c), some (.ref tr), some (.ref D), some (.ref ra), v, z, y, none] ∧ Same H0 H3 ∧ ∃ kvs, H3 D = some (.dK kvs) ∧ DG (RT H3 (forest (dom0 born.length, PyData.int) ((rows.take i).flatten ++ row.take j)).2) kvs (fun x => x ∈ (forest (dom0 born.length, PyData.int) ((rows.take i).flatten ++ row.take j)).1))
        ⟨_, _, _, rfl, e, kvs, hd, by simpa using hdg⟩ (fun j σ H3 hj h => ?_) (fun j x σ H3 hx h => ?_) (fun σ H3 h => ?_)
      · obtain ⟨_, _, _, rfl, e, _⟩ := h
        exact .of (e _ _ hra)
      · obtain ⟨_, _, _, rfl, e, kvs, hd, hdg⟩ := h
        obtain ⟨g0, hg0, tg⟩ := tz.get hx
        obtain ⟨g, hg, rfl⟩ := get_map hg0
        obtain ⟨ga, rfl, hga⟩ := dI_at tg
        have G : GOk (forest (dom0 born.length, PyData.int) ((rows.take i).flatten ++ row.take j)).1 g := by
          have z := hJ
          rw [flat_at hrow hg] at z
          have z2 := joins_at z
          rw [forest_dom]
          exact z2
        generalize hS : forest (dom0 born.length, PyData.int) ((rows.take i).flatten ++ row.take j) = S at hdg G
        have hSn : forest (dom0 born.length, PyData.int) ((rows.take i).flatten ++ row.take (j + 1)) = (joinD S.1 g, joinF S.2 g) := by
          rw [take_snoc hg, ← List.append_assoc, forest_snoc, hS]
        have hsub : ∀ x ∈ S.1, x ∈ dom0 born.length := fun x hx => by
          rw [← hS, forest_dom] at hx
          exact domAfter_sub hx
        have hkl := hdg.len hsub
        have hgl : g.length ≤ born.length := sub_len (asc_nodup G.asc) fun x hx => hsub x (G.mem x hx)
        trivial
        have hga3 := e _ _ hga
        refine ⟨⟨_, .of hga3⟩, fun D2 hD2 => lcm_tup (xs := g.map V.int) (look kvs) hD2 (.of hga3) (small_ (by rw [List.length_map]; omega)) (fun k x H4 hx e4 Y N yy nn => ?_) (fun H4 e4 hD4 => ?_)⟩
        · obtain ⟨k, hk, rfl⟩ := get_map hx
          obtain ⟨v, ev, _⟩ := hdg.bw k (G.mem k (List.mem_of_getElem? hk))
          refine ⟨rfl, ?_⟩
          trivial
          refine ⟨D, v, rfl, (by have z := DGet.k (k := Sum.inl k) (e4 _ _ hd); rw [ev] at z; exact z), ?_⟩
          exact yy _ _ (L2.Same.refl _) ev
        · refine ⟨D2, _, rfl, .inl ⟨.of hD4, fun t1 ht1 => ?_⟩⟩
          have e5 := e4.put ht1 (.tup ((g.map V.int).filterMap (look kvs)))
          have eA := e.trans e5
          trivial
          refine ⟨⟨_, .of (eA _ _ hga)⟩, ?_⟩
          refine for_tup (xs := g.map V.int) (fun m σ H6 => ∃ (y : Option V), σ = [some (.ref c), some (.ref tr), some (.ref D), some (.ref ra), some (.ref ga), some (.ref t1), y, none] ∧ Same H0 H6 ∧ TS (upd H4 t1 (.tup ((g.map V.int).filterMap (look kvs)))) H6 ∧ ∃ kv3, H6 D = some (.dK kv3) ∧ DG (RT H3 S.2) kv3 (fun x => x ∈ S.1 ∧ x ∉ g.take m))
            ⟨_, rfl, eA, TS.refl _, kvs, e5 _ _ hd, hdg.congr fun x => by simp⟩ (fun m σ H6 hm h => ?_) (fun m x σ H6 hx h => ?_) (fun σ H6 h => ?_)
          · obtain ⟨_, rfl, e, _⟩ := h
            exact .of (e _ _ hga)
          · obtain ⟨_, rfl, e, ets, kv3, hd3, hdg3⟩ := h
            obtain ⟨k, hk, rfl⟩ := get_map hx
            obtain ⟨v, ev, _⟩ := hdg3.bw k ⟨G.mem k (List.mem_of_getElem? hk), asc_notake G.asc hk⟩
            trivial
            refine ⟨.inl ⟨_, .inl hd3⟩, ?_⟩
            trivial
            refine ⟨kv3, Sum.inl k, v, hd3, rfl, ev, ?_⟩
            exact ⟨_, rfl, e.set hD _, ets.trans (TS.updD hd3 _), _, upd_same, pop_take hdg3 hk⟩
          · obtain ⟨_, rfl, e, ets, kv3, hd3, hdg3⟩ := h
            rw [List.length_map, List.take_length] at hdg3
            trivial
            obtain ⟨a, b, r, hgr⟩ := head_tail G.two
            refine ⟨ga, _, _, _, rfl, rfl, .of (e _ _ hga), (show atI (List.map V.int g) ((0 : Nat) : Int) = some (.int (g.headD 0)) from atI_nat (by rw [hgr]; rfl)), ?_⟩
            have hk3 : kv3.length ≤ born.length := hdg3.len fun x hx => hsub x hx.1
            refine ⟨D, _, rfl, DPut.k (k := Sum.inl (g.headD 0)) hd3 (small_lt (by omega)), ?_⟩
            refine ⟨_, _, _, rfl, e.set hD _, _, upd_same, ?_⟩
            rw [hSn]
            have ts36 : TS H3 H6 := e5.ts.trans ets
            have tsU := TS.updD hd3 (.dK (putK kv3 (Sum.inl (g.headD 0)) (.ref t1)))
            have tj : Tp H6 (.ref t1) (.tuple (g.map S.2)) := by
              have z := hdg.looks (g := g) G.mem
              exact Tps.mk' (ets.t _ _ upd_same) (z.mono ts36)
            exact DG.join G hdg3 (ts36.trans tsU) (tj.mono tsU)
      · obtain ⟨_, _, _, rfl, e, kvs, hd, hdg⟩ := h
        rw [hzl, List.take_length, ← flat_take hrow] at hdg
        exact ⟨_, _, _, _, rfl, e, kvs, hd, hdg⟩
    · obtain ⟨_, _, _, _, rfl, e, kvs, hd, hdg⟩ := h
      rw [hlen, List.take_length] at hdg
      generalize hS : forest (dom0 born.length, PyData.int) rows.flatten = S at hdg
      have hasc : S.1.Pairwise (· < ·) := by rw [← hS, forest_dom]; exact domAfter_asc (dom0_asc _)
      have hsub : ∀ x ∈ S.1, x ∈ dom0 born.length := fun x hx => by
        rw [← hS, forest_dom] at hx
        exact domAfter_sub hx
      have hdl : S.1.length ≤ born.length := sub_len (asc_nodup hasc) hsub
      obtain ⟨ks, hks, hnd, hmem⟩ := hdg.keys
      have hkl : ks.length ≤ born.length := sub_len hnd fun x hx => hsub x ((hmem x).mp hx)
      trivial
      refine ⟨D, kvs, ks, rfl, .inl hd, hks, by omega, fun ys p hp hs hpn => ?_⟩
      have hys := hdg.sorted hks hp hs hasc fun x => Iff.rfl
      subst hys
      trivial
      have e6 := e.put hpn (.lst (S.1.map V.int))
      refine ⟨⟨_, .of upd_same⟩, fun D2 hD2 => lcm_list (xs := S.1.map V.int) (look kvs) hD2 (.of upd_same) (small_ (by rw [List.length_map]; omega)) (fun k x H4 hx e4 Y N yy nn => ?_) (fun H4 e4 hD4 => ?_)⟩
      · obtain ⟨k, hk, rfl⟩ := get_map hx
        obtain ⟨v, ev, _⟩ := hdg.bw k (List.mem_of_getElem? hk)
        have hd4 := e4 _ _ ((L2.Same.of_new hpn (.lst (S.1.map V.int))) _ _ hd)
        refine ⟨rfl, ?_⟩
        trivial
        refine ⟨D, v, rfl, (by have z := DGet.k (k := Sum.inl k) hd4; rw [ev] at z; exact z), ?_⟩
        exact yy _ _ (L2.Same.refl _) ev
      · refine ⟨D2, _, rfl, .inl ⟨.of hD4, fun t1 ht1 => ?_⟩⟩
        have e5 := (e6.trans e4).put ht1 (.tup ((S.1.map V.int).filterMap (look kvs)))
        have z := (hdg.looks (g := S.1) fun x hx => hx).mono (((L2.Same.of_new hpn (.lst (S.1.map V.int))).trans (e4.put ht1 (.tup ((S.1.map V.int).filterMap (look kvs))))).ts)
        refine q _ _ (e0.trans e5) ?_
        unfold woodIn woodOf
        rw [hS]
        exact Tps.mk' upd_same z
end
end G93

set_option Elab.async false
set_option linter.all false
set_option maxRecDepth 100000
set_option maxHeartbeats 4000000
/-! the law's own walk over a tree -/
namespace G93
open PySem PySem.Spec PyProof.Rows L2
local macro_rules | `(tactic| trivial) => `(tactic| (repeat (first | refine ⟨_, rfl, ?_⟩ | refine ⟨_, _, rfl, rfl, ?_⟩ | refine .inl ⟨_, rfl, ?_⟩ | refine ⟨_, _, rfl, ?_⟩)))
abbrev s_law_shapes : Stmt := top 41
theorem sc_law_shapes : FnScope ["_law_calendar", "_law_tree_here", "_law_born", "_law_days", "_law_found", "_law_x", "_law_row", "_law_group", "_law_parts", "_law_name"] ["_law_calendar", "_law_tree_here"] (defScope s_law_shapes) := ⟨rfl, rfl, rfl, by decide +kernel, rfl, by decide +kernel, by decide +kernel⟩
/-- a drawn calendar: the pair of its parts -/
def Pair (H : Hp) (cal vb vd : Addr) : Prop := H cal = some (.tup [.ref vb, .ref vd])
def spLShapes : Sp := fun vs H Q _ => ∃ (cal tr vb vd : Addr) (born : List Int) (days : List (List Int)) (rows : List (List (List Int))), vs = [.ref cal, .ref tr] ∧ Pair H cal vb vd ∧ CalAt H vb vd born days ∧ CalOk born days ∧ Tp H (.ref tr) (treeD rows) ∧ TreeOk born 0 (fun _ => False) days rows ∧
  ∀ r H', Same H H' → Tp H' (.ref r) (woodIn born.length rows.flatten) → Q (.ref r) H'
section
variable {P : Program} {w : World} {K : PySem.W.Frag} {mg : Str → Option Value} {base : Heap} {f : Addr} {fd : FuncData}
theorem ok_lshapes (F : Fun K "_law_shapes" "_law_shapes" s_law_shapes f fd) (B : Bi mg) : FnOk P w K mg base CX0 1 f fd ["_law_calendar", "_law_tree_here"] spLShapes := by
  refine F.ok sc_law_shapes (fun vs H Q E h => ?_) (fun cdv A outer s H vs Q E hr h => ?_)
  · obtain ⟨_, _, _, _, _, _, _, rfl, _⟩ := h
    rfl
  obtain ⟨cal, tr, vb, vd, born, days, rows, rfl, hP, hC, hO, hTr, hOk, q⟩ := h
  have hhi := hO.hi
  have hJ := tree_joins0 hOk
  refine ⟨_, (pss_cons (ps_asg (pv 0) (pg_tup rfl (pgs_cons (pg_name (i := 2) sc_law_shapes.nd rfl (Or.inl rfl)) (pgs_cons (pg_name (i := 3) sc_law_shapes.nd rfl (Or.inl rfl)) pgs_nil))))
      (pss_cons (ps_set (i := 4) sc_law_shapes.nd rfl (Or.inr rfl) pe_dnewK)
      (pss_cons (ps_for PassesOwn.never rfl (pi_range1 (by rfl) B.range_ (pa_cons (pe_callB call_len_seq (by rfl) B.len_ (by decide +kernel) (pa_cons (pv 2) pa_nil)) pa_nil)) (pg_name (i := 5) sc_law_shapes.nd rfl (Or.inl rfl))
        (pss_one (ps_dput (hu_of hr) (pv 4) (pv 5) (pv 5) rfl)))
      (pss_cons (ps_for PassesOwn.never rfl (pi_tup (pv 1)) (pg_name (i := 6) sc_law_shapes.nd rfl (Or.inl rfl))
        (pss_one (ps_for PassesOwn.never rfl (pi_tup (pv 6)) (pg_name (i := 7) sc_law_shapes.nd rfl (Or.inl rfl))
          (pss_cons (ps_set (i := 8) sc_law_shapes.nd rfl (Or.inl rfl) (pe_tup pa_nil))
          (pss_cons (ps_for PassesOwn.never rfl (pi_tup (pv 7)) (pg_name (i := 9) sc_law_shapes.nd rfl (Or.inl rfl))
            (pss_one (ps_set (i := 8) sc_law_shapes.nd rfl (Or.inl rfl) (pe_op op_catA (pv 8) (pe_tup (pa_cons (pe_dpop1 (pv 4) (pv 9) (m1_of (by rfl) (by rfl))) pa_nil))))))
          (pss_one (ps_dput (hu_of hr) (pv 4) (pe_ix ix_tup (pv 7) pe_int (fun _ _ => rfl)) (pv 8) rfl)))))))
      (pss_one (ps_ret (pe_callTy call_tuple_of (by rfl) B.tuple_ (by decide +kernel) (pa_cons (pe_lc (own := [("_law_name", 9)]) rfl sc_law_shapes.nd (pi_list (pe_callB (call_sortedDI rfl) (by rfl) B.sorted_ (by decide +kernel) (pa_cons (pv 4) pa_nil))) (blkOk_by (own := [("_law_name", 9)]) (N := ["_law_calendar", "_law_tree_here", "_law_born", "_law_days", "_law_found", "_law_x", "_law_row", "_law_group", "_law_parts", "_law_name"]) (sc := defScope s_law_shapes) (by decide +kernel)) (fun _ _ _ _ _ => (pg_name (i := 9) sc_law_shapes.nd rfl (Or.inl rfl))) (fun _ _ _ _ _ => pts_nil) (fun _ _ _ _ _ => (pe_dget (hu_of hr) (pv 4) (pv 9) (fun _ _ => rfl)))) pa_nil))))))))
   , ?_⟩
  obtain ⟨xs, hT, ts⟩ := hTr.tup_ref
  have hlen : xs.length = rows.length := by rw [ts.len, List.length_map]
  trivial
  refine ⟨cal, _, rfl, .of hP, rfl, ?_⟩
  trivial
  intro D hD
  have e0 := L2.Same.of_new hD (.dK [])
  trivial
  refine ⟨vb, _, rfl, .inr (hC.mono e0.ts).b.sqT, ?_⟩
  refine ⟨_, rfl, by omega, by rw [List.length_map]; omega, ?_⟩
  rw [Int.toNat_natCast, List.length_map]
  refine for_range (n := born.length) (fun i σ H1 => ∃ u, σ = [some (.ref cal), some (.ref tr), some (.ref vb), some (.ref vd), some (.ref D), u, none, none, none, none] ∧ Same H H1 ∧ ∃ kvs, H1 D = some (.dK kvs) ∧ DG (RT H1 PyData.int) kvs (fun x => x ∈ dom0 i)) ⟨_, rfl, e0, [], upd_same, DG.start⟩ (fun i σ H1 hi h => ?_) (fun σ H1 h => ?_)
  · obtain ⟨_, rfl, e, kvs, hd, hdg⟩ := h
    trivial
    have hz : kvs.length ≤ i := hdg.len fun x hx => hx
    refine ⟨D, _, rfl, DPut.k (k := Sum.inl (0 + (i : Int))) hd (small_lt (by omega)), ?_⟩
    refine ⟨_, rfl, e.set hD _, _, upd_same, ?_⟩
    show DG (RT (upd H1 D (.dK (putK kvs (Sum.inl (0 + (i : Int))) (V.int (0 + (i : Int)))))) PyData.int) (putK kvs (Sum.inl (0 + (i : Int))) (V.int (0 + (i : Int)))) (fun x => x ∈ dom0 (i + 1))
    rw [Int.zero_add]
    exact hdg.step (TS.updD hd _)
  · obtain ⟨x5, rfl, e, kvs, hd, hdg⟩ := h
    have hT1 := e _ _ hT
    trivial
    refine ⟨⟨_, .of hT1⟩, ?_⟩
    refine for_tup (xs := xs) (fun i σ H2 => ∃ (u v z y : Option V), σ = [some (.ref cal), some (.ref tr), some (.ref vb), some (.ref vd), some (.ref D), x5, u, v, z, y] ∧ Same H H2 ∧ ∃ kvs, H2 D = some (.dK kvs) ∧ DG (RT H2 (forest (dom0 born.length, PyData.int) (rows.take i).flatten).2) kvs (fun x => x ∈ (forest (dom0 born.length, PyData.int) (rows.take i).flatten).1))
      ⟨_, _, _, _, rfl, e, kvs, hd, hdg⟩ (fun i σ H2 hi h => ?_) (fun i x σ H2 hx h => ?_) (fun σ H2 h => ?_)
    · obtain ⟨_, _, _, _, rfl, e, _⟩ := h
      exact .of (e _ _ hT)
    · obtain ⟨_, _, _, _, rfl, e, kvs, hd, hdg⟩ := h
      obtain ⟨row0, hrow0, trow⟩ := ts.get hx
      obtain ⟨row, hrow, rfl⟩ := get_map hrow0
      obtain ⟨ra, zs, rfl, hra, tz⟩ := trow.tuple
      have hzl : zs.length = row.length := by rw [tz.len, List.length_map]
      trivial
      refine ⟨⟨_, .of (e _ _ hra)⟩, ?_⟩
      refine for_tup (xs := zs) (fun j σ H3 => ∃ (v z y : Option V), σ = [some (.ref cal), some (.ref tr), some (.ref vb), some (.ref vd), some (.ref D), x5, some (.ref ra), v, z, y] ∧ Same H H3 ∧ ∃ kvs, H3 D = some (.dK kvs) ∧ DG (RT H3 (forest (dom0 born.length, PyData.int) ((rows.take i).flatten ++ row.take j)).2) kvs (fun x => x ∈ (forest (dom0 born.length, PyData.int) ((rows.take i).flatten ++ row.take j)).1))
        ⟨_, _, _, rfl, e, kvs, hd, by simpa using hdg⟩ (fun j σ H3 hj h => ?_) (fun j x σ H3 hx h => ?_) (fun σ H3 h => ?_)
      · obtain ⟨_, _, _, rfl, e, _⟩ := h
        exact .of (e _ _ hra)
      · obtain ⟨_, _, _, rfl, e, kvs, hd, hdg⟩ := h
        obtain ⟨g0, hg0, tg⟩ := tz.get hx
        obtain ⟨g, hg, rfl⟩ := get_map hg0
        obtain ⟨ga, rfl, hga⟩ := dI_at tg
        have G : GOk (forest (dom0 born.length, PyData.int) ((rows.take i).flatten ++ row.take j)).1 g := by
          have z := hJ
          rw [flat_at hrow hg] at z
          have z2 := joins_at z
          rw [forest_dom]
          exact z2
        generalize hS : forest (dom0 born.length, PyData.int) ((rows.take i).flatten ++ row.take j) = S at hdg G
        have hSn : forest (dom0 born.length, PyData.int) ((rows.take i).flatten ++ row.take (j + 1)) = (joinD S.1 g, joinF S.2 g) := by
          rw [take_snoc hg, ← List.append_assoc, forest_snoc, hS]
        have hsub : ∀ x ∈ S.1, x ∈ dom0 born.length := fun x hx => by
          rw [← hS, forest_dom] at hx
          exact domAfter_sub hx
        have hkl := hdg.len hsub
        have hgl : g.length ≤ born.length := sub_len (asc_nodup G.asc) fun x hx => hsub x (G.mem x hx)
        trivial
        refine ⟨(by show 0 ≤ sizeLine; decide), fun t0 ht0 => ?_⟩
        have e4 := e.put ht0 (.tup [])
        have hd4 : upd H3 t0 (.tup []) D = some (.dK kvs) := by rw [upd_ne (ne_of_none hd ht0)]; exact hd
        have ts4 : TS H3 (upd H3 t0 (.tup [])) := (L2.Same.of_new ht0 _).ts
        trivial
        refine ⟨⟨_, .of (e4 _ _ hga)⟩, ?_⟩
        refine for_tup (xs := g.map V.int) (fun m σ H6 => ∃ (pa : Addr) (y : Option V) (ws : List V) (kv3 : List (Key × V)), σ = [some (.ref cal), some (.ref tr), some (.ref vb), some (.ref vd), some (.ref D), x5, some (.ref ra), some (.ref ga), some (.ref pa), y] ∧ Same H H6 ∧ TS H3 H6 ∧ H6 pa = some (.tup ws) ∧ Tps H6 ws ((g.take m).map S.2) ∧ H6 D = some (.dK kv3) ∧ DG (RT H3 S.2) kv3 (fun x => x ∈ S.1 ∧ x ∉ g.take m))
          ⟨t0, _, [], kvs, rfl, e4, ts4, upd_same, .nil, hd4, hdg.congr fun x => by simp⟩ (fun m σ H6 hm h => ?_) (fun m x σ H6 hx h => ?_) (fun σ H6 h => ?_)
        · obtain ⟨_, _, _, _, rfl, e, _⟩ := h
          exact .of (e _ _ hga)
        · obtain ⟨pa, _, ws, kv3, rfl, e, ets, hpa, tw, hd3, hdg3⟩ := h
          obtain ⟨k, hk, rfl⟩ := get_map hx
          obtain ⟨v, ev, rv⟩ := hdg3.bw k ⟨G.mem k (List.mem_of_getElem? hk), asc_notake G.asc hk⟩
          have hwl : ws.length ≤ g.length := by rw [tw.len, List.length_map, List.length_take]; omega
          trivial
          refine ⟨.inl ⟨_, .inl hd3⟩, ?_⟩
          trivial
          refine ⟨kv3, Sum.inl k, v, hd3, rfl, ev, ?_⟩
          refine ⟨(by show 1 ≤ sizeLine; decide), fun t2 ht2 => ?_⟩
          have tsU := TS.updD hd3 (.dK (dropK kv3 (Sum.inl k)))
          have tsV := tsU.trans (L2.Same.of_new ht2 (.tup [v])).ts
          have eV := (e.set hD (.dK (dropK kv3 (Sum.inl k)))).put ht2 (.tup [v])
          have hdV : upd (upd H6 D (.dK (dropK kv3 (Sum.inl k)))) t2 (.tup [v]) D = some (.dK (dropK kv3 (Sum.inl k))) := by
            rw [upd_ne (ne_of_none (upd_same (H := H6) (a := D) (o := .dK (dropK kv3 (Sum.inl k)))) ht2), upd_same]
          have hpaV := tsV.t _ _ hpa
          have hnew : Tps H6 (ws ++ [v]) ((g.take (m + 1)).map S.2) := by
            rw [take_snoc hk, List.map_append]
            exact tw.append (.one (Tp.mono ets rv))
          refine ⟨pa, t2, ws, [v], rfl, rfl, .of hpaV, .of upd_same, small_ (by rw [List.length_singleton]; omega), fun z => ?_, fun _ z => (by cases z), fun _ _ p hp => ?_⟩
          · subst z
            exact ⟨t2, _, [v], _, rfl, eV, ets.trans tsV, upd_same, hnew.mono tsV, hdV, pop_take hdg3 hk⟩
          · have tsW := (L2.Same.of_new hp (.tup (ws ++ [v]))).ts
            exact ⟨p, _, ws ++ [v], _, rfl, eV.put hp _, (ets.trans tsV).trans tsW, upd_same, (hnew.mono tsV).mono tsW, by rw [upd_ne (ne_of_none hdV hp)]; exact hdV, pop_take hdg3 hk⟩
        · obtain ⟨pa, _, ws, kv3, rfl, e, ets, hpa, tw, hd3, hdg3⟩ := h
          rw [List.length_map, List.take_length] at hdg3 tw
          trivial
          obtain ⟨a, b, r, hgr⟩ := head_tail G.two
          refine ⟨ga, _, _, _, rfl, rfl, .of (e _ _ hga), (show atI (List.map V.int g) ((0 : Nat) : Int) = some (.int (g.headD 0)) from atI_nat (by rw [hgr]; rfl)), ?_⟩
          have hk3 : kv3.length ≤ born.length := hdg3.len fun x hx => hsub x hx.1
          refine ⟨D, _, rfl, DPut.k (k := Sum.inl (g.headD 0)) hd3 (small_lt (by omega)), ?_⟩
          refine ⟨_, _, _, rfl, e.set hD _, _, upd_same, ?_⟩
          rw [hSn]
          have tsU := TS.updD hd3 (.dK (putK kv3 (Sum.inl (g.headD 0)) (.ref pa)))
          exact DG.join G hdg3 (ets.trans tsU) ((Tps.mk' hpa tw).mono tsU)
      · obtain ⟨_, _, _, rfl, e, kvs, hd, hdg⟩ := h
        rw [hzl, List.take_length, ← flat_take hrow] at hdg
        exact ⟨_, _, _, _, rfl, e, kvs, hd, hdg⟩
    · obtain ⟨_, _, _, _, rfl, e, kvs, hd, hdg⟩ := h
      rw [hlen, List.take_length] at hdg
      generalize hS : forest (dom0 born.length, PyData.int) rows.flatten = S at hdg
      have hasc : S.1.Pairwise (· < ·) := by rw [← hS, forest_dom]; exact domAfter_asc (dom0_asc _)
      have hsub : ∀ x ∈ S.1, x ∈ dom0 born.length := fun x hx => by
        rw [← hS, forest_dom] at hx
        exact domAfter_sub hx
      have hdl : S.1.length ≤ born.length := sub_len (asc_nodup hasc) hsub
      obtain ⟨ks, hks, hnd, hmem⟩ := hdg.keys
      have hkl : ks.length ≤ born.length := sub_len hnd fun x hx => hsub x ((hmem x).mp hx)
      trivial
      refine ⟨D, kvs, ks, rfl, .inl hd, hks, by omega, fun ys p hp hs hpn => ?_⟩
      have hys := hdg.sorted hks hp hs hasc fun x => Iff.rfl
      subst hys
      trivial
      have e6 := e.put hpn (.lst (S.1.map V.int))
      refine ⟨⟨_, .of upd_same⟩, fun D2 hD2 => lcm_list (xs := S.1.map V.int) (look kvs) hD2 (.of upd_same) (small_ (by rw [List.length_map]; omega)) (fun k x H4 hx e4 Y N yy nn => ?_) (fun H4 e4 hD4 => ?_)⟩
      · obtain ⟨k, hk, rfl⟩ := get_map hx
        obtain ⟨v, ev, _⟩ := hdg.bw k (List.mem_of_getElem? hk)
        have hd4 := e4 _ _ ((L2.Same.of_new hpn (.lst (S.1.map V.int))) _ _ hd)
        refine ⟨rfl, ?_⟩
        trivial
        refine ⟨D, v, rfl, (by have z := DGet.k (k := Sum.inl k) hd4; rw [ev] at z; exact z), ?_⟩
        exact yy _ _ (L2.Same.refl _) ev
      · refine ⟨D2, _, rfl, .inl ⟨.of hD4, fun t1 ht1 => ?_⟩⟩
        have e5 := (e6.trans e4).put ht1 (.tup ((S.1.map V.int).filterMap (look kvs)))
        have z := (hdg.looks (g := S.1) fun x hx => hx).mono (((L2.Same.of_new hpn (.lst (S.1.map V.int))).trans (e4.put ht1 (.tup ((S.1.map V.int).filterMap (look kvs))))).ts)
        refine q _ _ (e5) ?_
        unfold woodIn woodOf
        rw [hS]
        exact Tps.mk' upd_same z
end
end G93

set_option Elab.async false
set_option linter.all false
set_option maxRecDepth 100000
set_option maxHeartbeats 4000000
/-! the program's leaves of a shape -/
namespace G93
open PySem PySem.Spec PyProof.Rows L2
local macro_rules | `(tactic| trivial) => `(tactic| (repeat (first | refine ⟨_, rfl, ?_⟩ | refine ⟨_, _, rfl, rfl, ?_⟩ | refine .inl ⟨_, rfl, ?_⟩ | refine ⟨_, _, rfl, ?_⟩)))
abbrev s_leaves_of : Stmt := top 21
theorem sc_leaves_of : FnScope ["shape", "deep", "found", "last", "part", "some"] ["shape", "deep"] (defScope s_leaves_of) := ⟨rfl, rfl, rfl, by decide +kernel, rfl, by decide +kernel, by decide +kernel⟩
def spLv (n : Nat) : Sp := fun vs H Q _ => ∃ (v : V) (d : PyData) (k : Nat), vs = [v, .int k] ∧ k < n ∧ Tp H v d ∧ ∀ r H', Same H H' → H' r = some (.lst ((progLv k d).map V.int)) → Q (.ref r) H'
theorem progLv_len (k : Nat) (d : PyData) : (progLv k d).length ≤ 12 := by
  by_cases h : progLv k d = []
  · rw [h]; exact Nat.zero_le _
  · exact (prog_law k d h).2
def lastV : Option Int → V
  | none => .non
  | some l => .int l
theorem progLv_no {d : PyData} (h1 : isInt d = false) (h2 : isTup d = false) (k : Nat) : progLv k d = [] := by
  cases d <;> first | (simp [isInt] at h1; done) | (simp [isTup] at h2; done) | (cases k <;> simp [progLv])
section
variable {P : Program} {w : World} {K : PySem.W.Frag} {mg : Str → Option Value} {base : Heap} {f : Addr} {fd : FuncData}
theorem ok_leaves {n m : Nat} (hm : 1 ≤ m) (F : Fun K "leaves_of" "leaves_of" s_leaves_of f fd) (B : Bi mg) (C_is_number : Cal P w K mg base CX0 1 "is_number" ["thing"] spNum) (C_leaves_of : Cal P w K mg base CX0 m "leaves_of" ["shape", "deep"] (spLv n)) :
    FnOk P w K mg base CX0 (m + 1) f fd ["shape", "deep"] (spLv (n + 1)) := by
  refine F.ok sc_leaves_of (fun vs H Q E h => ?_) (fun cdv A outer s H vs Q E hr h => ?_)
  · obtain ⟨v, d, k, rfl, _⟩ := h
    rfl
  obtain ⟨v, d, k, rfl, hk, t, q⟩ := h
  refine ⟨_, (pss_cons (ps_if (pt_val (pe_callC C_is_number (hr.mono hm) (by rfl) pass0 (pa_cons (pv 0) pa_nil)))
        (pss_one (ps_ret (pe_lst (pa_cons (pv 0) pa_nil))))
        pss_nil)
      (pss_cons (ps_if (PW.pt (pw_or (pt_cmpR op_eq (pv 1) pe_int (nomark _)) (pw_or (pt_not (pt_val (pe_callB call_isi (by rfl) B.isinstance_ (by decide +kernel) (pa_cons (pv 0) (pa_cons (pe_bltn (v := .ty "tuple") (by rfl) B.tuple_ (by decide +kernel) rfl) pa_nil))))) (pw_or1 (pt_not (pt_chain op_le op_le pe_int (pe_callB call_len_seq (by rfl) B.len_ (by decide +kernel) (pa_cons (pv 0) pa_nil)) (pe_glob (v := .int 12) (by rfl) B.c_MOST_LEAVES_shapes ⟨_, rfl⟩)))))))
        (pss_one (ps_ret (pe_lst pa_nil)))
        pss_nil)
      (pss_cons (ps_par (i := 2) (j := 3) rfl sc_leaves_of.nd rfl rfl (by decide) rfl rfl (pa_cons (pe_lst pa_nil) (pa_cons pe_non pa_nil)) (by rfl))
      (pss_cons (ps_for PassesOwn.never rfl (pi_tup (pv 0)) (pg_name (i := 4) sc_leaves_of.nd rfl (Or.inl rfl))
        (pss_cons (ps_set (i := 5) sc_leaves_of.nd rfl (Or.inl rfl) (pe_callC C_leaves_of hr (by rfl) pass0 (pa_cons (pv 4) (pa_cons (pe_op op_sub (pv 1) pe_int) pa_nil))))
        (pss_cons (ps_if (PW.pt (pw_or (pt_cmpR (op_eqD (hu4_of hr)) (pv 5) (pe_lst pa_nil) (nomark _)) (pw_or (PW.pt (pw_and (pt_cmpR op_notN (pv 3) pe_non (nomark _)) (pw_and1 (pt_cmpR op_le (pe_callB (cr_min rfl) (by rfl) B.min_ (by decide +kernel) (pa_cons (pv 5) pa_nil)) (pv 3) (nomark _))))) (pw_or1 (pt_cmpR op_gt (pe_op op_add (pe_callB call_len_seq (by rfl) B.len_ (by decide +kernel) (pa_cons (pv 2) pa_nil)) (pe_callB call_len_seq (by rfl) B.len_ (by decide +kernel) (pa_cons (pv 5) pa_nil))) (pe_glob (v := .int 12) (by rfl) B.c_MOST_LEAVES_shapes ⟨_, rfl⟩) (nomark _))))))
          (pss_one (ps_ret (pe_lst pa_nil)))
          pss_nil)
        (pss_one (ps_par (i := 2) (j := 3) rfl sc_leaves_of.nd rfl rfl (by decide) rfl rfl (pa_cons (pe_op op_cat (pv 2) (pv 5)) (pa_cons (pe_callB (cr_min rfl) (by rfl) B.min_ (by decide +kernel) (pa_cons (pv 5) pa_nil)) pa_nil)) (by rfl))))))
      (pss_one (ps_ret (pv 2)))))))
   , ?_⟩
  trivial
  refine ⟨_, d, rfl, t, ?_⟩
  cases hi : isInt d with
  | true =>
    obtain ⟨i, rfl⟩ : ∃ i, d = .int i := by cases d <;> first | exact ⟨_, rfl⟩ | (simp [isInt] at hi; done)
    trivial
    refine ⟨(by show 1 ≤ sizeLine; decide), fun r hr2 => ?_⟩
    refine q r _ (L2.Same.of_new hr2 _) ?_
    cases t
    rw [upd_same]
    cases k <;> simp [progLv]
  | false =>
    trivial
    -- what is no shape
    have bad : progLv k d = [] → ∀ H1, Same H H1 → 0 ≤ sizeLine ∧ ∀ r, H1 r = none → Q (.ref r) (upd H1 r (.lst [])) := fun z H1 e => ⟨(by decide), fun r hr2 => q r _ (e.put hr2 _) (by rw [upd_same, z]; rfl)⟩
    by_cases hk0 : k = 0
    · refine ⟨rfl, _, rfl, ?_⟩
      rw [decide_eq_true (show V.int (k : Int) = V.int 0 by rw [hk0]; rfl)]
      trivial
      refine bad ?_ _ (L2.Same.refl _)
      subst hk0
      cases d <;> first | (simp [isInt] at hi; done) | simp [progLv]
    · refine ⟨rfl, _, rfl, ?_⟩
      rw [decide_eq_false (show ¬ V.int (k : Int) = V.int 0 from fun z => hk0 (by have := V.int.inj z; omega))]
      refine iteF ?_
      trivial
      obtain ⟨ty, tx, hkk⟩ := isi_tup (K := K) t
      refine ⟨_, _, _, _, _, rfl, .ty _, tx, hkk, ?_⟩
      cases ht : isTup d with
      | false =>
        trivial
        exact bad (progLv_no hi ht k) _ (L2.Same.refl _)
      | true =>
        obtain ⟨ds, rfl⟩ : ∃ ds, d = .tuple ds := by cases d <;> first | exact ⟨_, rfl⟩ | (simp [isTup] at ht; done)
        obtain ⟨a, xs, rfl, hT, ts⟩ := t.tuple
        obtain ⟨j, rfl⟩ : ∃ j, k = j + 1 := ⟨k - 1, by omega⟩
        trivial
        refine ⟨a, _, rfl, .inr (.of hT), ?_⟩
        trivial
        have hxl := ts.len
        by_cases h2 : 2 ≤ xs.length
        · rw [decide_eq_true (show (2 : Int) ≤ (xs.length : Nat) by omega)]
          trivial
          by_cases h12 : xs.length ≤ 12
          · refine iteNS (show ((xs.length : Nat) : Int) ≤ 12 by omega) ?_
            refine ⟨(by show 0 ≤ sizeLine; decide), fun fl hfl => ?_⟩
            trivial
            have e0 := L2.Same.of_new hfl (.lst [])
            refine ⟨⟨_, .of (e0 _ _ hT)⟩, ?_⟩
            have hlv : progLv (j + 1) (.tuple ds) = (progLoop (progLv j) true ds [] none).getD [] := by
              rw [progLv, if_pos (by omega)]
            refine for_tup (xs := xs) (fun i σ H1 => ∃ (fl : Addr) (last : Option Int) (u v : Option V) (ns : List Int), σ = [some (.ref a), some (.int ((j + 1 : Nat) : Int)), some (.ref fl), some (lastV last), u, v] ∧ Same H H1 ∧ H1 fl = some (.lst (ns.map V.int)) ∧ ns.length ≤ 12 ∧
              progLoop (progLv j) true ds [] none = progLoop (progLv j) true (ds.drop i) ns last)
              ⟨fl, none, _, _, [], rfl, e0, upd_same, Nat.zero_le _, rfl⟩ (fun i σ H1 hi h => ?_) (fun i x σ H1 hx h => ?_) (fun σ H1 h => ?_)
            · obtain ⟨_, _, _, _, _, rfl, e, _⟩ := h
              exact .of (e _ _ hT)
            · obtain ⟨fl, last, u, v, ns, rfl, e, hf, hns, hl⟩ := h
              obtain ⟨d, hd, td⟩ := ts.get hx
              obtain ⟨hd1, hd2⟩ := List.getElem?_eq_some_iff.mp hd
              rw [List.drop_eq_getElem_cons hd1, hd2] at hl
              trivial
              refine ⟨x, d, j, by show [x, V.int (((j + 1 : Nat) : Int) - 1)] = [x, V.int j]; rw [show (((j + 1 : Nat) : Int) - 1) = (j : Int) by omega], by omega, td.mono e.ts, fun r H2 e2 hr2 => ?_⟩
              have hf2 := e2 _ _ hf
              have eB := e.trans e2
              have hsl := progLv_len j d
              have out : progLoop (progLv j) true (d :: ds.drop (i + 1)) ns last = none → ∀ H3, Same H2 H3 → 0 ≤ sizeLine ∧ ∀ r, H3 r = none → Q (.ref r) (upd H3 r (.lst [])) := fun z H3 e3 => bad (by rw [hlv, hl, z]; rfl) _ (eB.trans e3)
              have hout : progLoop (progLv j) true (d :: ds.drop (i + 1)) ns last = if progLv j d = [] ∨ (∃ l, last = some l ∧ lmin (progLv j d) ≤ l) ∨ (true = true ∧ ns.length + (progLv j d).length > 12) then none
                else progLoop (progLv j) true (ds.drop (i + 1)) (ns ++ progLv j d) (some (lmin (progLv j d))) := by rw [progLoop]
              generalize hS : progLv j d = S at *
              trivial
              refine ⟨(by show 0 ≤ sizeLine; decide), fun t0 ht0 => ?_⟩
              have e3 := L2.Same.of_new ht0 (.lst [])
              refine ⟨.list (S.map .int), .list (([] : List Int).map .int), dp_lst (.of (e3 _ _ hr2)), dp_lst (.of upd_same), (Bd.ints (m := 0) S).shaped (by decide), rfl, ?_⟩
              refine ⟨_, rfl, ?_⟩
              rw [eqv_ints]
              by_cases h0 : S = []
              · rw [decide_eq_true h0]
                refine iteT (iteT ?_)
                exact out (by rw [hout, if_pos (.inl h0)]) _ e3
              · rw [decide_eq_false h0]
                refine iteF ?_
                trivial
                cases last with
                | none =>
                  have hlast : ∀ l, (none : Option Int) = some l → lmin S ≤ l → False := fun l z => by cases z
                  refine ⟨rfl, _, rfl, ?_⟩
                  rw [decide_eq_true (show lastV none = V.non from rfl)]
                  trivial
                  refine ⟨fl, _, rfl, .inl (.of (e3 _ _ hf2)), ?_⟩
                  trivial
                  refine ⟨r, _, rfl, .inl (.of (e3 _ _ hr2)), ?_⟩
                  trivial
                  refine ite2 (fun c => ?_) (fun c => ?_)
                  · have c' := of_decide_eq_true c
                    rw [List.length_map, List.length_map] at c'
                    exact out (by rw [hout, if_pos (.inr (.inr ⟨rfl, by omega⟩))]) _ e3
                  · have c' := of_decide_eq_false (Bool.eq_false_iff.mpr c)
                    rw [List.length_map, List.length_map] at c'
                    have hnx := hout
                    rw [if_neg (fun z => by
                      rcases z with z | ⟨l, z1, z2⟩ | ⟨_, z⟩
                      · exact h0 z
                      · exact hlast l z1 z2
                      · omega)] at hnx
                    trivial
                    refine ⟨fl, r, _, _, rfl, rfl, e3 _ _ hf2, e3 _ _ hr2, small_ (by rw [List.length_map, List.length_map]; omega), fun f2 hf2' => ?_⟩
                    trivial
                    have e4 := e3.put hf2' (.lst (ns.map V.int ++ S.map V.int))
                    refine ⟨r, S, rfl, .of (e4 _ _ hr2), List.length_pos_iff.mpr h0, fun m hm1 hm2 => ?_⟩
                    have hmm : m = lmin S := (lmin_is hm1 hm2).symm
                    subst hmm
                    trivial
                    refine ⟨f2, some (lmin S), _, _, ns ++ S, rfl, eB.trans e4, by rw [upd_same, List.map_append], by rw [List.length_append]; omega, ?_⟩
                    rw [hl, hnx]
                | some l =>
                  refine ⟨rfl, _, rfl, ?_⟩
                  rw [decide_eq_false (show ¬ lastV (some l) = V.non from fun z => by cases z)]
                  trivial
                  refine ⟨r, S, rfl, .of (e3 _ _ hr2), List.length_pos_iff.mpr h0, fun m hm1 hm2 => ?_⟩
                  have hmm : m = lmin S := (lmin_is hm1 hm2).symm
                  subst hmm
                  trivial
                  by_cases hle : lmin S ≤ l
                  · rw [decide_eq_true hle]
                    trivial
                    exact out (by rw [hout, if_pos (.inr (.inl ⟨l, rfl, hle⟩))]) _ e3
                  · rw [decide_eq_false hle]
                    refine iteF ?_
                    have hlast : ∀ l2, some l = some l2 → lmin S ≤ l2 → False := fun l2 z => by cases z; exact hle
                    trivial
                    refine ⟨fl, _, rfl, .inl (.of (e3 _ _ hf2)), ?_⟩
                    trivial
                    refine ⟨r, _, rfl, .inl (.of (e3 _ _ hr2)), ?_⟩
                    trivial
                    refine ite2 (fun c => ?_) (fun c => ?_)
                    · have c' := of_decide_eq_true c
                      rw [List.length_map, List.length_map] at c'
                      exact out (by rw [hout, if_pos (.inr (.inr ⟨rfl, by omega⟩))]) _ e3
                    · have c' := of_decide_eq_false (Bool.eq_false_iff.mpr c)
                      rw [List.length_map, List.length_map] at c'
                      have hnx := hout
                      rw [if_neg (fun z => by
                        rcases z with z | ⟨l, z1, z2⟩ | ⟨_, z⟩
                        · exact h0 z
                        · exact hlast l z1 z2
                        · omega)] at hnx
                      trivial
                      refine ⟨fl, r, _, _, rfl, rfl, e3 _ _ hf2, e3 _ _ hr2, small_ (by rw [List.length_map, List.length_map]; omega), fun f2 hf2' => ?_⟩
                      trivial
                      have e4 := e3.put hf2' (.lst (ns.map V.int ++ S.map V.int))
                      refine ⟨r, S, rfl, .of (e4 _ _ hr2), List.length_pos_iff.mpr h0, fun m hm1 hm2 => ?_⟩
                      have hmm : m = lmin S := (lmin_is hm1 hm2).symm
                      subst hmm
                      trivial
                      refine ⟨f2, some (lmin S), _, _, ns ++ S, rfl, eB.trans e4, by rw [upd_same, List.map_append], by rw [List.length_append]; omega, ?_⟩
                      rw [hl, hnx]
            · obtain ⟨fl, last, u, v, ns, rfl, e, hf, hns, hl⟩ := h
              trivial
              refine q fl _ e ?_
              rw [hlv, hl, hxl, List.drop_length, hf]
              rfl
          · rw [decide_eq_false (show ¬ ((xs.length : Nat) : Int) ≤ 12 by omega)]
            trivial
            refine bad ?_ _ (L2.Same.refl _)
            unfold progLv
            rw [if_neg (by omega)]
        · rw [decide_eq_false (show ¬ (2 : Int) ≤ (xs.length : Nat) by omega)]
          trivial
          refine bad ?_ _ (L2.Same.refl _)
          unfold progLv
          rw [if_neg (by omega)]
end
end G93

set_option Elab.async false
set_option linter.all false
set_option maxRecDepth 100000
set_option maxHeartbeats 4000000
/-! how many leaves a wood has, by the program; made_wood -/
namespace G93
open PySem PySem.Spec PyProof.Rows L2
local macro_rules | `(tactic| trivial) => `(tactic| (repeat (first | refine ⟨_, rfl, ?_⟩ | refine ⟨_, _, rfl, rfl, ?_⟩ | refine .inl ⟨_, rfl, ?_⟩ | refine ⟨_, _, rfl, ?_⟩)))
abbrev s_wood_size : Stmt := top 22
theorem sc_wood_size : FnScope ["thing", "found", "last", "shape", "some"] ["thing"] (defScope s_wood_size) := ⟨rfl, rfl, rfl, by decide +kernel, rfl, by decide +kernel, by decide +kernel⟩
abbrev s_made_wood : Stmt := top 23
theorem sc_made_wood : FnScope ["n", "thing"] ["n", "thing"] (defScope s_made_wood) := ⟨rfl, rfl, rfl, by decide +kernel, rfl, by decide +kernel, by decide +kernel⟩
def spSize : Sp := fun vs H Q _ => ∃ (v : V) (d : PyData), vs = [v] ∧ Tp H v d ∧ ∀ H', Same H H' → Q (.int (progSize d)) H'
def Good (n : Int) : Prop := 1 ≤ n ∧ n ≤ 12
def spMW (Cb Cs : Addr) : Sp := fun vs H Q E => ∃ (n : Int) (v : V) (d : PyData), vs = [.int n, v] ∧ Tp H v d ∧ (Good n → progSize d = n → ∀ H', Same H H' → Q v H') ∧
  (Good n → progSize d ≠ n → ∀ dd H', Same H H' → H' dd = some (.xd (whatF (.int 0))) → E (.ref Cs) (some dd) H') ∧ (¬ Good n → ∀ dd H', Same H H' → H' dd = some (.xd (whatF (.int n))) → E (.ref Cb) (some dd) H')
theorem progSize_no {d : PyData} (h2 : isTup d = false) : progSize d = 0 := by
  cases d <;> first | (simp [isTup] at h2; done) | simp [progSize]
theorem rgV_dom (n : Nat) : rgV 0 (n : Int) = (dom0 n).map V.int := by
  unfold rgV dom0
  rw [Int.sub_zero, Int.toNat_natCast, List.map_map]
  refine List.map_congr_left fun i _ => ?_
  show V.int (0 + (i : Int)) = V.int (i : Int)
  rw [Int.zero_add]
theorem sorted_dom {ns ns' : List Int} (hp : ns'.Perm ns) (hs : ns'.Pairwise (· ≤ ·)) : decide (ns' = dom0 ns.length) = decide (isRange ns) := by
  by_cases h : isRange ns
  · rw [decide_eq_true h]
    refine decide_eq_true ?_
    exact (hp.trans h).eq_of_pairwise (fun x y _ _ h1 h2 => by omega) hs (lt_le (dom0_asc _))
  · rw [decide_eq_false h]
    refine decide_eq_false fun z => h ?_
    unfold isRange
    rw [z] at hp
    exact hp.symm
section
variable {P : Program} {w : World} {K : PySem.W.Frag} {mg : Str → Option Value} {base : Heap} {f : Addr} {fd : FuncData}
theorem ok_size (F : Fun K "wood_size" "wood_size" s_wood_size f fd) (B : Bi mg) (C_leaves_of : Cal P w K mg base CX0 13 "leaves_of" ["shape", "deep"] (spLv 12)) : FnOk P w K mg base CX0 14 f fd ["thing"] spSize := by
  refine F.ok sc_wood_size (fun vs H Q E h => ?_) (fun cdv A outer s H vs Q E hr h => ?_)
  · obtain ⟨v, d, rfl, _⟩ := h
    rfl
  obtain ⟨v, d, rfl, t, q⟩ := h
  refine ⟨_, (pss_cons (ps_if (PW.pt (pw_or (pt_not (pt_val (pe_callB call_isi (by rfl) B.isinstance_ (by decide +kernel) (pa_cons (pv 0) (pa_cons (pe_bltn (v := .ty "tuple") (by rfl) B.tuple_ (by decide +kernel) rfl) pa_nil))))) (pw_or1 (pt_not (pt_chain op_le op_le pe_int (pe_callB call_len_seq (by rfl) B.len_ (by decide +kernel) (pa_cons (pv 0) pa_nil)) (pe_glob (v := .int 12) (by rfl) B.c_MOST_LEAVES_shapes ⟨_, rfl⟩))))))
        (pss_one (ps_ret pe_int))
        pss_nil)
      (pss_cons (ps_par (i := 1) (j := 2) rfl sc_wood_size.nd rfl rfl (by decide) rfl rfl (pa_cons (pe_lst pa_nil) (pa_cons pe_non pa_nil)) (by rfl))
      (pss_cons (ps_for PassesOwn.never rfl (pi_tup (pv 0)) (pg_name (i := 3) sc_wood_size.nd rfl (Or.inl rfl))
        (pss_cons (ps_set (i := 4) sc_wood_size.nd rfl (Or.inl rfl) (pe_callC C_leaves_of (hr.mono (by decide)) (by rfl) pass0 (pa_cons (pv 3) (pa_cons (pe_glob (v := .int 11) (by rfl) B.c_MOST_JOINTS ⟨_, rfl⟩) pa_nil))))
        (pss_cons (ps_if (PW.pt (pw_or (pt_cmpR (op_eqD (hu4_of hr)) (pv 4) (pe_lst pa_nil) (nomark _)) (pw_or1 (PW.pt (pw_and (pt_cmpR op_notN (pv 2) pe_non (nomark _)) (pw_and1 (pt_cmpR op_le (pe_callB (cr_min rfl) (by rfl) B.min_ (by decide +kernel) (pa_cons (pv 4) pa_nil)) (pv 2) (nomark _))))))))
          (pss_one (ps_ret pe_int))
          pss_nil)
        (pss_one (ps_par (i := 1) (j := 2) rfl sc_wood_size.nd rfl rfl (by decide) rfl rfl (pa_cons (pe_op op_cat (pv 1) (pv 4)) (pa_cons (pe_callB (cr_min rfl) (by rfl) B.min_ (by decide +kernel) (pa_cons (pv 4) pa_nil)) pa_nil)) (by rfl))))))
      (pss_one (ps_ret (pe_ifExp (PW.pt (pw_and (pt_cmpR (op_eqD (hu4_of hr)) (pe_callB cr_sortedI (by rfl) B.sorted_ (by decide +kernel) (pa_cons (pv 1) pa_nil)) (pe_listRg rfl (by rfl) B.list_ (prg_1 (by rfl) B.range_ (pe_callB call_len_seq (by rfl) B.len_ (by decide +kernel) (pa_cons (pv 1) pa_nil)))) (nomark _)) (pw_and1 (pt_cmpR op_le (pe_callB call_len_seq (by rfl) B.len_ (by decide +kernel) (pa_cons (pv 1) pa_nil)) (pe_glob (v := .int 12) (by rfl) B.c_MOST_LEAVES_shapes ⟨_, rfl⟩) (nomark _))))) (pe_callB call_len_seq (by rfl) B.len_ (by decide +kernel) (pa_cons (pv 1) pa_nil)) pe_int))))))
   , ?_⟩
  trivial
  have bad : progSize d = 0 → ∀ H1, Same H H1 → Q (.int 0) H1 := fun z H1 e => by have := q _ e; rw [z] at this; exact this
  obtain ⟨ty, tx, hkk⟩ := isi_tup (K := K) t
  refine ⟨_, _, _, _, _, rfl, .ty _, tx, hkk, ?_⟩
  cases ht : isTup d with
  | false =>
    trivial
    exact bad (progSize_no ht) _ (L2.Same.refl _)
  | true =>
    obtain ⟨ds, rfl⟩ : ∃ ds, d = .tuple ds := by cases d <;> first | exact ⟨_, rfl⟩ | (simp [isTup] at ht; done)
    obtain ⟨a, xs, rfl, hT, ts⟩ := t.tuple
    trivial
    refine ⟨a, _, rfl, .inr (.of hT), ?_⟩
    trivial
    have hxl := ts.len
    by_cases h2 : 1 ≤ xs.length
    · rw [decide_eq_true (show (1 : Int) ≤ (xs.length : Nat) by omega)]
      trivial
      by_cases h12 : xs.length ≤ 12
      · refine iteNS (show ((xs.length : Nat) : Int) ≤ 12 by omega) ?_
        refine ⟨(by show 0 ≤ sizeLine; decide), fun fl hfl => ?_⟩
        trivial
        have e0 := L2.Same.of_new hfl (.lst [])
        refine ⟨⟨_, .of (e0 _ _ hT)⟩, ?_⟩
        have hsz : progSize (.tuple ds) = (match progLoop (progLv 11) false ds [] none with
          | none => (0 : Int)
          | some found => if isRange found ∧ found.length ≤ 12 then (found.length : Int) else 0) := by
          rw [progSize, if_pos (by omega)]
          all_goals rfl
        refine for_tup (xs := xs) (fun i σ H1 => ∃ (fl : Addr) (last : Option Int) (u v : Option V) (ns : List Int), σ = [some (.ref a), some (.ref fl), some (lastV last), u, v] ∧ Same H H1 ∧ H1 fl = some (.lst (ns.map V.int)) ∧ ns.length ≤ 12 * i ∧
          progLoop (progLv 11) false ds [] none = progLoop (progLv 11) false (ds.drop i) ns last)
          ⟨fl, none, _, _, [], rfl, e0, upd_same, Nat.zero_le _, rfl⟩ (fun i σ H1 hi h => ?_) (fun i x σ H1 hx h => ?_) (fun σ H1 h => ?_)
        · obtain ⟨_, _, _, _, _, rfl, e, _⟩ := h
          exact .of (e _ _ hT)
        · obtain ⟨fl, last, u, v, ns, rfl, e, hf, hns, hl⟩ := h
          obtain ⟨d, hd, td⟩ := ts.get hx
          obtain ⟨hd1, hd2⟩ := List.getElem?_eq_some_iff.mp hd
          rw [List.drop_eq_getElem_cons hd1, hd2] at hl
          trivial
          refine ⟨x, d, 11, rfl, by decide, td.mono e.ts, fun r H2 e2 hr2 => ?_⟩
          have hf2 := e2 _ _ hf
          have eB := e.trans e2
          have hsl := progLv_len 11 d
          have out : progLoop (progLv 11) false (d :: ds.drop (i + 1)) ns last = none → ∀ H3, Same H2 H3 → Q (.int 0) H3 := fun z H3 e3 => bad (by rw [hsz, hl, z]) _ (eB.trans e3)
          have hout : progLoop (progLv 11) false (d :: ds.drop (i + 1)) ns last = if progLv 11 d = [] ∨ (∃ l, last = some l ∧ lmin (progLv 11 d) ≤ l) ∨ (false = true ∧ ns.length + (progLv 11 d).length > 12) then none
            else progLoop (progLv 11) false (ds.drop (i + 1)) (ns ++ progLv 11 d) (some (lmin (progLv 11 d))) := by rw [progLoop]
          generalize hS : progLv 11 d = S at *
          trivial
          refine ⟨(by show 0 ≤ sizeLine; decide), fun t0 ht0 => ?_⟩
          have e3 := L2.Same.of_new ht0 (.lst [])
          refine ⟨.list (S.map .int), .list (([] : List Int).map .int), dp_lst (.of (e3 _ _ hr2)), dp_lst (.of upd_same), (Bd.ints (m := 0) S).shaped (by decide), rfl, ?_⟩
          refine ⟨_, rfl, ?_⟩
          rw [eqv_ints]
          by_cases h0 : S = []
          · rw [decide_eq_true h0]
            refine iteT (iteT ?_)
            exact out (by rw [hout, if_pos (.inl h0)]) _ e3
          · rw [decide_eq_false h0]
            refine iteF ?_
            trivial
            cases last with
            | none =>
              have hlast : ∀ l, (none : Option Int) = some l → lmin S ≤ l → False := fun l z => by cases z
              refine ⟨rfl, _, rfl, ?_⟩
              rw [decide_eq_true (show lastV none = V.non from rfl)]
              trivial
              refine ⟨fl, r, _, _, rfl, rfl, e3 _ _ hf2, e3 _ _ hr2, small_ (by rw [List.length_map, List.length_map]; omega), fun f2 hf2' => ?_⟩
              trivial
              have e4 := e3.put hf2' (.lst (ns.map V.int ++ S.map V.int))
              refine ⟨r, S, rfl, .of (e4 _ _ hr2), List.length_pos_iff.mpr h0, fun m hm1 hm2 => ?_⟩
              have hmm : m = lmin S := (lmin_is hm1 hm2).symm
              subst hmm
              trivial
              have hnx := hout
              rw [if_neg (fun z => by
                rcases z with z | ⟨l, z1, z2⟩ | ⟨z, _⟩
                · exact h0 z
                · exact hlast l z1 z2
                · exact absurd z (by decide))] at hnx
              refine ⟨f2, some (lmin S), _, _, ns ++ S, rfl, eB.trans e4, by rw [upd_same, List.map_append], by rw [List.length_append]; omega, ?_⟩
              rw [hl, hnx]
            | some l =>
              refine ⟨rfl, _, rfl, ?_⟩
              rw [decide_eq_false (show ¬ lastV (some l) = V.non from fun z => by cases z)]
              trivial
              refine ⟨r, S, rfl, .of (e3 _ _ hr2), List.length_pos_iff.mpr h0, fun m hm1 hm2 => ?_⟩
              have hmm : m = lmin S := (lmin_is hm1 hm2).symm
              subst hmm
              trivial
              by_cases hle : lmin S ≤ l
              · rw [decide_eq_true hle]
                refine iteT ?_
                exact out (by rw [hout, if_pos (.inr (.inl ⟨l, rfl, hle⟩))]) _ e3
              · rw [decide_eq_false hle]
                refine iteF ?_
                have hlast : ∀ l2, some l = some l2 → lmin S ≤ l2 → False := fun l2 z => by cases z; exact hle
                trivial
                refine ⟨fl, r, _, _, rfl, rfl, e3 _ _ hf2, e3 _ _ hr2, small_ (by rw [List.length_map, List.length_map]; omega), fun f2 hf2' => ?_⟩
                trivial
                have e4 := e3.put hf2' (.lst (ns.map V.int ++ S.map V.int))
                refine ⟨r, S, rfl, .of (e4 _ _ hr2), List.length_pos_iff.mpr h0, fun m hm1 hm2 => ?_⟩
                have hmm : m = lmin S := (lmin_is hm1 hm2).symm
                subst hmm
                trivial
                have hnx := hout
                rw [if_neg (fun z => by
                  rcases z with z | ⟨l, z1, z2⟩ | ⟨z, _⟩
                  · exact h0 z
                  · exact hlast l z1 z2
                  · exact absurd z (by decide))] at hnx
                refine ⟨f2, some (lmin S), _, _, ns ++ S, rfl, eB.trans e4, by rw [upd_same, List.map_append], by rw [List.length_append]; omega, ?_⟩
                rw [hl, hnx]
        · obtain ⟨fl, last, u, v, ns, rfl, e, hf, hns, hl⟩ := h
          rw [hxl, List.drop_length] at hl
          have hl2 : progLoop (progLv 11) false ds [] none = some ns := hl
          have hqq : ∀ H1, Same H H1 → Q (.int (if isRange ns ∧ ns.length ≤ 12 then (ns.length : Int) else 0)) H1 := fun H1 e => by
            have := q _ e
            rw [hsz, hl2] at this
            exact this
          trivial
          refine ⟨fl, ns, rfl, .of hf, fun ns' p hp hs hpn => ?_⟩
          trivial
          have e5 := e.put hpn (.lst (ns'.map V.int))
          have hf5 : upd H1 p (.lst (ns'.map V.int)) fl = some (.lst (ns.map V.int)) := by rw [upd_ne (ne_of_none hf hpn)]; exact hf
          refine ⟨fl, _, rfl, .inl (.of hf5), ?_⟩
          refine ⟨_, rfl, RgOk.of_le (by decide) (by rw [List.length_map]; omega) (by decide) (by omega), fun r hr2 => ?_⟩
          rw [List.length_map, rgV_dom]
          have e6 := e5.put hr2 (.lst ((dom0 ns.length).map V.int))
          have hp6 : upd (upd H1 p (.lst (ns'.map V.int))) r (.lst ((dom0 ns.length).map V.int)) p = some (.lst (ns'.map V.int)) := by rw [upd_ne (ne_of_none (upd_same (H := H1)) hr2), upd_same]
          refine ⟨_, _, dp_lst (.of hp6), dp_lst (.of upd_same), (Bd.ints (m := 0) _).shaped (by decide), (Bd.ints (m := 0) _).shaped (by decide), ?_⟩
          refine ⟨_, rfl, ?_⟩
          rw [eqv_ints, sorted_dom hp hs]
          have hf6 : upd (upd H1 p (.lst (ns'.map V.int))) r (.lst ((dom0 ns.length).map V.int)) fl = some (.lst (ns.map V.int)) := by rw [upd_ne (ne_of_none hf5 hr2)]; exact hf5
          by_cases hR : isRange ns
          · rw [decide_eq_true hR]
            refine iteT ?_
            trivial
            refine ⟨fl, _, rfl, .inl (.of hf6), ?_⟩
            trivial
            rw [List.length_map]
            by_cases hle : ns.length ≤ 12
            · rw [decide_eq_true (show ((ns.length : Nat) : Int) ≤ 12 by omega)]
              refine iteT ?_
              trivial
              refine ⟨fl, _, rfl, .inl (.of hf6), ?_⟩
              have z := hqq _ e6
              rw [if_pos ⟨hR, hle⟩] at z
              rw [List.length_map]
              exact z
            · rw [decide_eq_false (show ¬ ((ns.length : Nat) : Int) ≤ 12 by omega)]
              refine iteF ?_
              have z := hqq _ e6
              rw [if_neg (fun y => hle y.2)] at z
              exact z
          · rw [decide_eq_false hR]
            refine iteF (iteF ?_)
            have z := hqq _ e6
            rw [if_neg (fun y => hR y.1)] at z
            exact z
      · rw [decide_eq_false (show ¬ ((xs.length : Nat) : Int) ≤ 12 by omega)]
        trivial
        refine bad ?_ _ (L2.Same.refl _)
        rw [progSize, if_neg (by omega)]
    · rw [decide_eq_false (show ¬ (1 : Int) ≤ (xs.length : Nat) by omega)]
      trivial
      refine bad ?_ _ (L2.Same.refl _)
      rw [progSize, if_neg (by omega)]
theorem ok_mw {Cb Cs D fI cc : Addr} (F : Fun K "made_wood" "made_wood" s_made_wood f fd) (B : Bi mg) (Tb : ErrTxt P K mg "BadSize" Cb D fI cc) (Ts : ErrTxt P K mg "BadShape" Cs D fI cc) (C_wood_size : Cal P w K mg base CX0 14 "wood_size" ["thing"] spSize) :
    FnOk P w K mg base (L2.CX P w) 15 f fd ["n", "thing"] (spMW Cb Cs) := by
  refine F.okX sc_made_wood (fun vs H Q E h => ?_) (fun cdv A outer s H vs Q E hr h => ?_)
  · obtain ⟨n, v, d, rfl, _⟩ := h
    rfl
  obtain ⟨n, v, d, rfl, t, q1, q2, q3⟩ := h
  refine ⟨_, (pss_cons (ps_if (pt_not (pt_chain op_le op_le pe_int (pv 0) (pe_glob (v := .int 12) (by rfl) B.c_MOST_LEAVES_shapes ⟨_, rfl⟩)))
      (pss_one (ps_raise rfl (takes_of rfl rfl rfl rfl) (pmk_err Tb hr (by rfl) (by exact (pa_cons (pv 0) pa_nil)))))
      pss_nil)
    (pss_cons (ps_if (pt_cmpR op_ne (pe_callC C_wood_size (hr.mono (by decide)) (by rfl) pass0 (pa_cons (pv 1) pa_nil)) (pv 0) (nomark _))
      (pss_one (ps_raise rfl (takes_of rfl rfl rfl rfl) (pmk_err Ts hr (by rfl) (by exact (pa_cons pe_int pa_nil)))))
      pss_nil)
    (pss_one (ps_ret (pv 1))))), ?_⟩
  trivial
  have no : ¬ Good n → ∀ dd H', Same H H' → H' dd = some (.xd (whatF (.int n))) → E (.ref Cb) (some dd) H' := q3
  by_cases h1 : 1 ≤ n
  · rw [decide_eq_true h1]
    trivial
    by_cases h2 : n ≤ 12
    · refine iteNS h2 ?_
      trivial
      refine ⟨v, d, rfl, t, fun H1 e1 => ?_⟩
      trivial
      refine ⟨rfl, _, rfl, ?_⟩
      by_cases hs : progSize d = n
      · rw [decide_eq_true (show V.int (progSize d) = V.int n by rw [hs])]
        trivial
        exact q1 ⟨h1, h2⟩ hs _ e1
      · rw [decide_eq_false (show ¬ V.int (progSize d) = V.int n from fun z => hs (V.int.inj z))]
        refine iteT ?_
        trivial
        intro dd hdd
        exact q2 ⟨h1, h2⟩ hs dd _ (e1.put hdd _) upd_same
    · rw [decide_eq_false h2]
      refine iteT ?_
      trivial
      intro dd hdd
      exact q3 (fun z => h2 z.2) dd _ (L2.Same.of_new hdd _) upd_same
  · rw [decide_eq_false h1]
    trivial
    intro dd hdd
    exact q3 (fun z => h1 z.1) dd _ (L2.Same.of_new hdd _) upd_same
end
end G93

set_option Elab.async false
set_option linter.all false
set_option maxRecDepth 100000
set_option maxHeartbeats 4000000
/-! plain laws: tuples of bounded length; the law's leaves are few -/
namespace G93
open PySem
inductive Wd (L : Nat) : PyData → Prop where
  | int (i : Int) : Wd L (.int i)
  | str (x : Str) : Wd L (.str x)
  | tup {ds : List PyData} (h : ds.length ≤ L) (ha : ∀ d ∈ ds, Wd L d) : Wd L (.tuple ds)
theorem Wd.inv {L : Nat} {ds : List PyData} (h : Wd L (.tuple ds)) : ds.length ≤ L ∧ ∀ d ∈ ds, Wd L d := by
  cases h with
  | tup h ha => exact ⟨h, ha⟩
theorem lawLv_len (k : Nat) (d : PyData) (l : List Int) (h : lawLv k d = some l) : l.length < 40 := by
  cases d with
  | int i =>
    cases k <;> (unfold lawLv at h; cases h; simp)
  | tuple ds =>
    cases k with
    | zero => simp [lawLv] at h
    | succ k =>
      unfold lawLv at h
      split at h
      · split at h
        · cases h
        · split at h
          · rename_i hc
            cases h
            exact hc.2
          · cases h
      · cases h
  | none => cases k <;> simp [lawLv] at h
  | bool b => cases k <;> simp [lawLv] at h
  | str x => cases k <;> simp [lawLv] at h
  | list x => cases k <;> simp [lawLv] at h
  | dict x => cases k <;> simp [lawLv] at h
theorem asc_dec {ls ls' : List Int} (hp : ls'.Perm ls) (hs : ls'.Pairwise (· ≤ ·)) : decide (ls = ls') = decide (ls.Pairwise (· ≤ ·)) := by
  by_cases h : ls.Pairwise (· ≤ ·)
  · rw [decide_eq_true h]
    exact decide_eq_true (hp.symm.eq_of_pairwise (fun x y _ _ h1 h2 => by omega) h hs)
  · rw [decide_eq_false h]
    exact decide_eq_false fun z => h (by rw [z]; exact hs)
end G93

set_option Elab.async false
set_option linter.all false
set_option maxRecDepth 100000
set_option maxHeartbeats 4000000
/-! the law's own leaves -/
namespace G93
open PySem PySem.Spec PyProof.Rows L2
local macro_rules | `(tactic| trivial) => `(tactic| (repeat (first | refine ⟨_, rfl, ?_⟩ | refine ⟨_, _, rfl, rfl, ?_⟩ | refine .inl ⟨_, rfl, ?_⟩ | refine ⟨_, _, rfl, ?_⟩)))
abbrev s_law_leaves : Stmt := top 44
theorem sc_law_leaves : FnScope ["_law_thing", "_law_depth", "_law_found", "_law_least", "_law_part", "_law_some"] ["_law_thing", "_law_depth"] (defScope s_law_leaves) := ⟨rfl, rfl, rfl, by decide +kernel, rfl, by decide +kernel, by decide +kernel⟩
def spLLv (n : Nat) : Sp := fun vs H Q _ => ∃ (v : V) (d : PyData) (k : Nat), vs = [v, .int (12 - (k : Int))] ∧ k < n ∧ Tp H v d ∧ Wd 100 d ∧ (lawLv k d = none → ∀ H', Same H H' → Q .non H') ∧
  ∀ l, lawLv k d = some l → ∀ r H', Same H H' → H' r = some (.lst (l.map V.int)) → Q (.ref r) H'
theorem lawLv_no {d : PyData} (h1 : isInt d = false) (h2 : isTup d = false) (k : Nat) : lawLv k d = none := by
  cases d <;> first | (simp [isInt] at h1; done) | (simp [isTup] at h2; done) | (cases k <;> simp [lawLv])
section
variable {P : Program} {w : World} {K : PySem.W.Frag} {mg : Str → Option Value} {base : Heap} {f : Addr} {fd : FuncData}
theorem ok_lleaves {n m : Nat} (F : Fun K "_law_leaves" "_law_leaves" s_law_leaves f fd) (B : Bi mg) (C_law_leaves : Cal P w K mg base CX0 m "_law_leaves" ["_law_thing", "_law_depth"] (spLLv n)) :
    FnOk P w K mg base CX0 (m + 1) f fd ["_law_thing", "_law_depth"] (spLLv (n + 1)) := by
  refine F.ok sc_law_leaves (fun vs H Q E h => ?_) (fun cdv A outer s H vs Q E hr h => ?_)
  · obtain ⟨v, d, k, rfl, _⟩ := h
    rfl
  obtain ⟨v, d, k, rfl, hk, t, hW, q0, q1⟩ := h
  refine ⟨_, (pss_cons (ps_if (pt_val (pe_callB call_isi (by rfl) B.isinstance_ (by decide +kernel) (pa_cons (pv 0) (pa_cons (pe_bltn (v := .ty "int") (by rfl) B.int_ (by decide +kernel) rfl) pa_nil))))
        (pss_one (ps_ret (pe_lst (pa_cons (pv 0) pa_nil))))
        pss_nil)
      (pss_cons (ps_if (PW.pt (pw_or (pt_not (pt_val (pe_callB call_isi (by rfl) B.isinstance_ (by decide +kernel) (pa_cons (pv 0) (pa_cons (pe_bltn (v := .ty "tuple") (by rfl) B.tuple_ (by decide +kernel) rfl) pa_nil))))) (pw_or (pt_cmpR op_lt (pe_callB call_len_seq (by rfl) B.len_ (by decide +kernel) (pa_cons (pv 0) pa_nil)) pe_int (nomark _)) (pw_or1 (pt_cmpR op_gt (pv 1) pe_int (nomark _))))))
        (pss_one (ps_ret pe_non))
        pss_nil)
      (pss_cons (ps_par (i := 2) (j := 3) rfl sc_law_leaves.nd rfl rfl (by decide) rfl rfl (pa_cons (pe_lst pa_nil) (pa_cons (pe_lst pa_nil) pa_nil)) (by rfl))
      (pss_cons (ps_for PassesOwn.never rfl (pi_tup (pv 0)) (pg_name (i := 4) sc_law_leaves.nd rfl (Or.inl rfl))
        (pss_cons (ps_set (i := 5) sc_law_leaves.nd rfl (Or.inl rfl) (pe_callC C_law_leaves hr (by rfl) pass0 (pa_cons (pv 4) (pa_cons (pe_op op_add (pv 1) pe_int) pa_nil))))
        (pss_cons (ps_if (pt_cmpR op_isN (pv 5) pe_non (nomark _))
          (pss_one (ps_ret pe_non))
          pss_nil)
        (pss_one (ps_par (i := 2) (j := 3) rfl sc_law_leaves.nd rfl rfl (by decide) rfl rfl (pa_cons (pe_op op_cat (pv 2) (pv 5)) (pa_cons (pe_op op_cat (pv 3) (pe_lst (pa_cons (pe_callB (cr_min rfl) (by rfl) B.min_ (by decide +kernel) (pa_cons (pv 5) pa_nil)) pa_nil))) pa_nil)) (by rfl))))))
      (pss_one (ps_ret (pe_ifExp (PW.pt (pw_and (pt_cmpR (op_eqD (hu4_of hr)) (pv 3) (pe_callB cr_sortedI (by rfl) B.sorted_ (by decide +kernel) (pa_cons (pv 3) pa_nil)) (nomark _)) (pw_and1 (pt_cmpR op_lt (pe_callB call_len_seq (by rfl) B.len_ (by decide +kernel) (pa_cons (pv 2) pa_nil)) pe_int (nomark _))))) (pv 2) pe_non)))))))
   , ?_⟩
  trivial
  obtain ⟨ty, tx, hkk⟩ := isi_int (K := K) t
  refine ⟨_, _, _, _, _, rfl, .ty _, tx, hkk, ?_⟩
  cases hi : isInt d with
  | true =>
    obtain ⟨i, rfl⟩ : ∃ i, d = .int i := by cases d <;> first | exact ⟨_, rfl⟩ | (simp [isInt] at hi; done)
    trivial
    refine ⟨(by show 1 ≤ sizeLine; decide), fun r hr2 => ?_⟩
    refine q1 [i] (by cases k <;> simp [lawLv]) r _ (L2.Same.of_new hr2 _) ?_
    cases t
    rw [upd_same]
    rfl
  | false =>
    trivial
    obtain ⟨ty, tx, hkk⟩ := isi_tup (K := K) t
    refine ⟨_, _, _, _, _, rfl, .ty _, tx, hkk, ?_⟩
    cases ht : isTup d with
    | false =>
      trivial
      exact q0 (lawLv_no hi ht k) _ (L2.Same.refl _)
    | true =>
      obtain ⟨ds, rfl⟩ : ∃ ds, d = .tuple ds := by cases d <;> first | exact ⟨_, rfl⟩ | (simp [isTup] at ht; done)
      obtain ⟨a, xs, rfl, hT, ts⟩ := t.tuple
      have hxl := ts.len
      obtain ⟨hwl, hwa⟩ := hW.inv
      trivial
      refine ⟨a, _, rfl, .inr (.of hT), ?_⟩
      trivial
      by_cases h2 : 2 ≤ xs.length
      · rw [decide_eq_false (show ¬ ((xs.length : Nat) : Int) < 2 by omega)]
        refine iteF ?_
        trivial
        by_cases hk0 : k = 0
        · rw [decide_eq_true (show (11 : Int) < 12 - (k : Int) by omega)]
          refine iteT ?_
          subst hk0
          exact q0 (by simp [lawLv]) _ (L2.Same.refl _)
        · rw [decide_eq_false (show ¬ (11 : Int) < 12 - (k : Int) by omega)]
          refine iteF ?_
          obtain ⟨j, rfl⟩ : ∃ j, k = j + 1 := ⟨k - 1, by omega⟩
          refine ⟨(by show 0 ≤ sizeLine; decide), fun fl hfl => ?_⟩
          refine ⟨(by show 0 ≤ sizeLine; decide), fun ml hml => ?_⟩
          trivial
          have e0 := (L2.Same.of_new hfl (.lst [])).put hml (.lst [])
          have hfl0 : upd (upd H fl (.lst [])) ml (.lst []) fl = some (.lst []) := by rw [upd_ne (ne_of_none (upd_same (H := H)) hml), upd_same]
          have hlv : lawLv (j + 1) (.tuple ds) = (match lawLoop (lawLv j) ds [] [] with
            | none => none
            | some (found, least) => if least.Pairwise (· ≤ ·) ∧ found.length < 40 then some found else none) := by
            rw [lawLv, if_pos (by omega)]
            all_goals rfl
          refine ⟨⟨_, .of (e0 _ _ hT)⟩, ?_⟩
          refine for_tup (xs := xs) (fun i σ H1 => ∃ (fl ml : Addr) (u v : Option V) (ns ls : List Int), σ = [some (.ref a), some (.int (12 - ((j + 1 : Nat) : Int))), some (.ref fl), some (.ref ml), u, v] ∧ Same H H1 ∧ H1 fl = some (.lst (ns.map V.int)) ∧ H1 ml = some (.lst (ls.map V.int)) ∧ ns.length ≤ 40 * i ∧ ls.length ≤ i ∧
            lawLoop (lawLv j) ds [] [] = lawLoop (lawLv j) (ds.drop i) ns ls)
            ⟨fl, ml, _, _, [], [], rfl, e0, hfl0, upd_same, Nat.zero_le _, Nat.zero_le _, rfl⟩ (fun i σ H1 hi h => ?_) (fun i x σ H1 hx h => ?_) (fun σ H1 h => ?_)
          · obtain ⟨_, _, _, _, _, _, rfl, e, _⟩ := h
            exact .of (e _ _ hT)
          · obtain ⟨fl, ml, u, v, ns, ls, rfl, e, hf, hm, hns, hls, hl⟩ := h
            obtain ⟨d, hd, td⟩ := ts.get hx
            obtain ⟨hd1, hd2⟩ := List.getElem?_eq_some_iff.mp hd
            rw [List.drop_eq_getElem_cons hd1, hd2] at hl
            trivial
            refine ⟨x, d, j, by show [x, V.int (12 - ((j + 1 : Nat) : Int) + 1)] = [x, V.int (12 - (j : Int))]; rw [show (12 - ((j + 1 : Nat) : Int) + 1) = 12 - (j : Int) by omega], by omega, td.mono e.ts, hwa d (List.mem_of_getElem? hd), fun hno H2 e2 => ?_, fun S hS r H2 e2 hr2 => ?_⟩
            · trivial
              refine ⟨rfl, _, rfl, ?_⟩
              rw [decide_eq_true (rfl : V.non = V.non)]
              refine iteT ?_
              refine q0 ?_ _ (e.trans e2)
              rw [hlv, hl, lawLoop, hno]
            · trivial
              refine ⟨rfl, _, rfl, ?_⟩
              rw [decide_eq_false (show ¬ V.ref r = V.non from fun z => by cases z)]
              refine iteF ?_
              have hSl := lawLv_len _ _ _ hS
              have hSne := lawLv_ne _ _ _ hS
              trivial
              refine ⟨fl, r, _, _, rfl, rfl, e2 _ _ hf, hr2, small_ (by rw [List.length_map, List.length_map]; omega), fun f2 hf2 => ?_⟩
              trivial
              have e3 := e2.put hf2 (.lst (ns.map V.int ++ S.map V.int))
              have hr3 := (L2.Same.of_new hf2 (.lst (ns.map V.int ++ S.map V.int))) _ _ hr2
              refine ⟨r, S, rfl, .of hr3, List.length_pos_iff.mpr hSne, fun m hm1 hm2 => ?_⟩
              have hmm : m = lmin S := (lmin_is hm1 hm2).symm
              subst hmm
              refine ⟨(by show 1 ≤ sizeLine; decide), fun t0 ht0 => ?_⟩
              have e4 := e3.put ht0 (.lst [.int (lmin S)])
              have hf4 : upd (upd H2 f2 (.lst (ns.map V.int ++ S.map V.int))) t0 (.lst [.int (lmin S)]) f2 = some (.lst (ns.map V.int ++ S.map V.int)) := by rw [upd_ne (ne_of_none (upd_same (H := H2)) ht0), upd_same]
              refine ⟨ml, t0, _, _, rfl, rfl, e4 _ _ hm, upd_same, small_ (by rw [List.length_map, List.length_singleton]; omega), fun m2 hm2 => ?_⟩
              trivial
              have e5 := e4.put hm2 (.lst (ls.map V.int ++ [.int (lmin S)]))
              refine ⟨f2, m2, _, _, ns ++ S, ls ++ [lmin S], rfl, e.trans e5, by rw [upd_ne (ne_of_none hf4 hm2), hf4, List.map_append], by rw [upd_same, List.map_append]; rfl, by rw [List.length_append]; omega, by rw [List.length_append, List.length_singleton]; omega, ?_⟩
              rw [hl, lawLoop, hS]
          · obtain ⟨fl, ml, u, v, ns, ls, rfl, e, hf, hm, hns, hls, hl⟩ := h
            rw [hxl, List.drop_length, lawLoop] at hl
            trivial
            refine ⟨ml, ls, rfl, .of hm, fun ls' p hp hs hpn => ?_⟩
            have e5 := e.put hpn (.lst (ls'.map V.int))
            have hm5 : upd H1 p (.lst (ls'.map V.int)) ml = some (.lst (ls.map V.int)) := by rw [upd_ne (ne_of_none hm hpn)]; exact hm
            have hf5 : upd H1 p (.lst (ls'.map V.int)) fl = some (.lst (ns.map V.int)) := by rw [upd_ne (ne_of_none hf hpn)]; exact hf
            refine ⟨_, _, dp_lst (.of hm5), dp_lst (.of upd_same), (Bd.ints (m := 0) _).shaped (by decide), (Bd.ints (m := 0) _).shaped (by decide), ?_⟩
            refine ⟨_, rfl, ?_⟩
            rw [eqv_ints, asc_dec hp hs]
            have hno : ¬ (ls.Pairwise (· ≤ ·) ∧ ns.length < 40) → Q .non (upd H1 p (.lst (ls'.map V.int))) := fun z => q0 (by rw [hlv, hl]; simp only; rw [if_neg z]) _ e5
            by_cases hA : ls.Pairwise (· ≤ ·)
            · rw [decide_eq_true hA]
              refine iteT ?_
              trivial
              refine ⟨fl, _, rfl, .inl (.of hf5), ?_⟩
              trivial
              rw [List.length_map]
              by_cases hle : ns.length < 40
              · rw [decide_eq_true (show ((ns.length : Nat) : Int) < 40 by omega)]
                refine iteT ?_
                trivial
                refine q1 ns (by rw [hlv, hl]; simp only; rw [if_pos ⟨hA, hle⟩]) fl _ e5 hf5
              · rw [decide_eq_false (show ¬ ((ns.length : Nat) : Int) < 40 by omega)]
                exact hno fun z => hle z.2
            · rw [decide_eq_false hA]
              exact hno fun z => hA z.1
      · rw [decide_eq_true (show ((xs.length : Nat) : Int) < 2 by omega)]
        refine iteT ?_
        trivial
        refine q0 ?_ _ (L2.Same.refl _)
        cases k with
        | zero => simp [lawLv]
        | succ k => rw [lawLv, if_neg (by omega)]
end
end G93

set_option Elab.async false
set_option linter.all false
set_option maxRecDepth 100000
set_option maxHeartbeats 4000000
/-! is it a wood, by the law's own clauses -/
namespace G93
open PySem PySem.Spec PyProof.Rows L2
local macro_rules | `(tactic| trivial) => `(tactic| (repeat (first | refine ⟨_, rfl, ?_⟩ | refine ⟨_, _, rfl, rfl, ?_⟩ | refine .inl ⟨_, rfl, ?_⟩ | refine ⟨_, _, rfl, ?_⟩)))
abbrev s_law_is_wood : Stmt := top 45
theorem sc_law_is_wood : FnScope ["_law_thing", "_law_found", "_law_least", "_law_part", "_law_some", "_law_x"] ["_law_thing"] (defScope s_law_is_wood) := ⟨rfl, rfl, rfl, by decide +kernel, rfl, by decide +kernel, by decide +kernel⟩
def spIsW : Sp := fun vs H Q _ => ∃ (v : V) (d : PyData), vs = [v] ∧ Tp H v d ∧ Wd 100 d ∧ Bd 60 d ∧ ∀ H', Same H H' → Q (.int (lawSize d)) H'
theorem lawSize_no {d : PyData} (h2 : isTup d = false) : lawSize d = 0 := by
  cases d <;> first | (simp [isTup] at h2; done) | simp [lawSize]
theorem fm_dom (n : Nat) : (List.range n).filterMap (fun i => some (V.int (0 + (i : Nat)))) = (dom0 n).map V.int := by
  rw [← rgV_dom]
  unfold rgV
  rw [Int.sub_zero, Int.toNat_natCast]
  induction List.range n with
  | nil => rfl
  | cons x r ih => rw [List.filterMap_cons, List.map_cons, ih]
section
variable {P : Program} {w : World} {K : PySem.W.Frag} {mg : Str → Option Value} {base : Heap} {f : Addr} {fd : FuncData}
theorem ok_isw (F : Fun K "_law_is_wood" "_law_is_wood" s_law_is_wood f fd) (B : Bi mg) (C_law_leaves : Cal P w K mg base CX0 12 "_law_leaves" ["_law_thing", "_law_depth"] (spLLv 12)) :
    FnOk P w K mg base CX0 13 f fd ["_law_thing"] spIsW := by
  refine F.ok sc_law_is_wood (fun vs H Q E h => ?_) (fun cdv A outer s H vs Q E hr h => ?_)
  · obtain ⟨v, d, rfl, _⟩ := h
    rfl
  obtain ⟨v, d, rfl, t, hW, hB, q⟩ := h
  refine ⟨_, (pss_cons (ps_if (PW.pt (pw_or (pt_not (pt_val (pe_callB call_isi (by rfl) B.isinstance_ (by decide +kernel) (pa_cons (pv 0) (pa_cons (pe_bltn (v := .ty "tuple") (by rfl) B.tuple_ (by decide +kernel) rfl) pa_nil))))) (pw_or1 (pt_cmpR (op_eqD (hu4_of hr)) (pv 0) (pe_tup pa_nil) (nomark _)))))
        (pss_one (ps_ret pe_int))
        pss_nil)
      (pss_cons (ps_par (i := 1) (j := 2) rfl sc_law_is_wood.nd rfl rfl (by decide) rfl rfl (pa_cons (pe_lst pa_nil) (pa_cons (pe_lst pa_nil) pa_nil)) (by rfl))
      (pss_cons (ps_for PassesOwn.never rfl (pi_tup (pv 0)) (pg_name (i := 3) sc_law_is_wood.nd rfl (Or.inl rfl))
        (pss_cons (ps_set (i := 4) sc_law_is_wood.nd rfl (Or.inl rfl) (pe_callC C_law_leaves (hr.mono (by decide)) (by rfl) pass0 (pa_cons (pv 3) (pa_cons pe_int pa_nil))))
        (pss_cons (ps_if (pt_cmpR op_isN (pv 4) pe_non (nomark _))
          (pss_one (ps_ret pe_int))
          pss_nil)
        (pss_one (ps_par (i := 1) (j := 2) rfl sc_law_is_wood.nd rfl rfl (by decide) rfl rfl (pa_cons (pe_op op_cat (pv 1) (pv 4)) (pa_cons (pe_op op_cat (pv 2) (pe_lst (pa_cons (pe_callB (cr_min rfl) (by rfl) B.min_ (by decide +kernel) (pa_cons (pv 4) pa_nil)) pa_nil))) pa_nil)) (by rfl))))))
      (pss_cons (ps_if (PW.pt (pw_or (pt_cmpR (op_neD (hu4_of hr)) (pv 2) (pe_callB cr_sortedI (by rfl) B.sorted_ (by decide +kernel) (pa_cons (pv 2) pa_nil)) (nomark _)) (pw_or (pt_cmpR (op_neD (hu4_of hr)) (pe_callB cr_sortedI (by rfl) B.sorted_ (by decide +kernel) (pa_cons (pv 1) pa_nil)) (pe_lc (own := [("_law_x", 5)]) rfl sc_law_is_wood.nd (pi_range1 (by rfl) B.range_ (pa_cons (pe_callB call_len_seq (by rfl) B.len_ (by decide +kernel) (pa_cons (pv 1) pa_nil)) pa_nil)) (blkOk_by (own := [("_law_x", 5)]) (N := ["_law_thing", "_law_found", "_law_least", "_law_part", "_law_some", "_law_x"]) (sc := defScope s_law_is_wood) (by decide +kernel)) (fun _ _ _ _ _ => (pg_name (i := 5) sc_law_is_wood.nd rfl (Or.inl rfl))) (fun _ _ _ _ _ => pts_nil) (fun _ _ _ _ _ => (pv 5))) (nomark _)) (pw_or1 (pt_cmpR op_gt (pe_callB call_len_seq (by rfl) B.len_ (by decide +kernel) (pa_cons (pv 1) pa_nil)) pe_int (nomark _))))))
        (pss_one (ps_ret pe_int))
        pss_nil)
      (pss_one (ps_ret (pe_callB call_len_seq (by rfl) B.len_ (by decide +kernel) (pa_cons (pv 1) pa_nil))))))))
   , ?_⟩
  trivial
  have bad : lawSize d = 0 → ∀ H1, Same H H1 → Q (.int 0) H1 := fun z H1 e => by have := q _ e; rw [z] at this; exact this
  obtain ⟨ty, tx, hkk⟩ := isi_tup (K := K) t
  refine ⟨_, _, _, _, _, rfl, .ty _, tx, hkk, ?_⟩
  cases ht : isTup d with
  | false =>
    trivial
    exact bad (lawSize_no ht) _ (L2.Same.refl _)
  | true =>
    obtain ⟨ds, rfl⟩ : ∃ ds, d = .tuple ds := by cases d <;> first | exact ⟨_, rfl⟩ | (simp [isTup] at ht; done)
    obtain ⟨a, xs, rfl, hT, ts⟩ := t.tuple
    have hxl := ts.len
    obtain ⟨hwl, hwa⟩ := hW.inv
    trivial
    refine ⟨(by show 0 ≤ sizeLine; decide), fun t0 ht0 => ?_⟩
    have e00 := L2.Same.of_new ht0 (.tup [])
    refine ⟨_, .tuple [], (t.mono e00.ts).dp, .tup (.of upd_same) .nil, hB.shaped (by decide), by rfl, ?_⟩
    refine ⟨_, rfl, ?_⟩
    rw [eqv_nil]
    by_cases hne : ds = []
    · rw [decide_eq_true hne]
      refine iteT ?_
      subst hne
      exact bad (by simp [lawSize]) _ e00
    · rw [decide_eq_false hne]
      refine iteF ?_
      refine ⟨(by show 0 ≤ sizeLine; decide), fun fl hfl => ?_⟩
      refine ⟨(by show 0 ≤ sizeLine; decide), fun ml hml => ?_⟩
      trivial
      have e0 := (e00.put hfl (.lst [])).put hml (.lst [])
      have hfl0 : upd (upd (upd H t0 (.tup [])) fl (.lst [])) ml (.lst []) fl = some (.lst []) := by rw [upd_ne (ne_of_none (upd_same (H := upd H t0 (.tup []))) hml), upd_same]
      have hlv : lawSize (.tuple ds) = (match lawLoop (lawLv 11) ds [] [] with
        | none => (0 : Int)
        | some (found, least) => if least.Pairwise (· ≤ ·) ∧ isRange found ∧ found.length ≤ 12 then (found.length : Int) else 0) := by
        rw [lawSize, if_neg hne]
        all_goals rfl
      refine ⟨⟨_, .of (e0 _ _ hT)⟩, ?_⟩
      refine for_tup (xs := xs) (fun i σ H1 => ∃ (fl ml : Addr) (u v : Option V) (ns ls : List Int), σ = [some (.ref a), some (.ref fl), some (.ref ml), u, v, none] ∧ Same H H1 ∧ H1 fl = some (.lst (ns.map V.int)) ∧ H1 ml = some (.lst (ls.map V.int)) ∧ ns.length ≤ 40 * i ∧ ls.length ≤ i ∧
        lawLoop (lawLv 11) ds [] [] = lawLoop (lawLv 11) (ds.drop i) ns ls)
        ⟨fl, ml, _, _, [], [], rfl, e0, hfl0, upd_same, Nat.zero_le _, Nat.zero_le _, rfl⟩ (fun i σ H1 hi h => ?_) (fun i x σ H1 hx h => ?_) (fun σ H1 h => ?_)
      · obtain ⟨_, _, _, _, _, _, rfl, e, _⟩ := h
        exact .of (e _ _ hT)
      · obtain ⟨fl, ml, u, v, ns, ls, rfl, e, hf, hm, hns, hls, hl⟩ := h
        obtain ⟨d, hd, td⟩ := ts.get hx
        obtain ⟨hd1, hd2⟩ := List.getElem?_eq_some_iff.mp hd
        rw [List.drop_eq_getElem_cons hd1, hd2] at hl
        trivial
        refine ⟨x, d, 11, rfl, by decide, td.mono e.ts, hwa d (List.mem_of_getElem? hd), fun hno H2 e2 => ?_, fun S hS r H2 e2 hr2 => ?_⟩
        · trivial
          refine ⟨rfl, _, rfl, ?_⟩
          rw [decide_eq_true (rfl : V.non = V.non)]
          refine iteT ?_
          refine bad ?_ _ (e.trans e2)
          rw [hlv, hl, lawLoop, hno]
        · trivial
          refine ⟨rfl, _, rfl, ?_⟩
          rw [decide_eq_false (show ¬ V.ref r = V.non from fun z => by cases z)]
          refine iteF ?_
          have hSl := lawLv_len _ _ _ hS
          have hSne := lawLv_ne _ _ _ hS
          trivial
          refine ⟨fl, r, _, _, rfl, rfl, e2 _ _ hf, hr2, small_ (by rw [List.length_map, List.length_map]; omega), fun f2 hf2 => ?_⟩
          trivial
          have e3 := e2.put hf2 (.lst (ns.map V.int ++ S.map V.int))
          have hr3 := (L2.Same.of_new hf2 (.lst (ns.map V.int ++ S.map V.int))) _ _ hr2
          refine ⟨r, S, rfl, .of hr3, List.length_pos_iff.mpr hSne, fun m hm1 hm2 => ?_⟩
          have hmm : m = lmin S := (lmin_is hm1 hm2).symm
          subst hmm
          refine ⟨(by show 1 ≤ sizeLine; decide), fun t0 ht0 => ?_⟩
          have e4 := e3.put ht0 (.lst [.int (lmin S)])
          have hf4 : upd (upd H2 f2 (.lst (ns.map V.int ++ S.map V.int))) t0 (.lst [.int (lmin S)]) f2 = some (.lst (ns.map V.int ++ S.map V.int)) := by rw [upd_ne (ne_of_none (upd_same (H := H2)) ht0), upd_same]
          refine ⟨ml, t0, _, _, rfl, rfl, e4 _ _ hm, upd_same, small_ (by rw [List.length_map, List.length_singleton]; omega), fun m2 hm2 => ?_⟩
          trivial
          have e5 := e4.put hm2 (.lst (ls.map V.int ++ [.int (lmin S)]))
          refine ⟨f2, m2, _, _, ns ++ S, ls ++ [lmin S], rfl, e.trans e5, by rw [upd_ne (ne_of_none hf4 hm2), hf4, List.map_append], by rw [upd_same, List.map_append]; rfl, by rw [List.length_append]; omega, by rw [List.length_append, List.length_singleton]; omega, ?_⟩
          rw [hl, lawLoop, hS]
      · obtain ⟨fl, ml, u, v, ns, ls, rfl, e, hf, hm, hns, hls, hl⟩ := h
        rw [hxl, List.drop_length, lawLoop] at hl
        have hqq : ∀ H1, Same H H1 → Q (.int (if ls.Pairwise (· ≤ ·) ∧ isRange ns ∧ ns.length ≤ 12 then (ns.length : Int) else 0)) H1 := fun H1 e => by
          have := q _ e
          rw [hlv, hl] at this
          exact this
        trivial
        refine ⟨ml, ls, rfl, .of hm, fun ls' p hp hs hpn => ?_⟩
        have e5 := e.put hpn (.lst (ls'.map V.int))
        have hm5 : upd H1 p (.lst (ls'.map V.int)) ml = some (.lst (ls.map V.int)) := by rw [upd_ne (ne_of_none hm hpn)]; exact hm
        have hf5 : upd H1 p (.lst (ls'.map V.int)) fl = some (.lst (ns.map V.int)) := by rw [upd_ne (ne_of_none hf hpn)]; exact hf
        refine ⟨_, _, dp_lst (.of hm5), dp_lst (.of upd_same), (Bd.ints (m := 0) _).shaped (by decide), (Bd.ints (m := 0) _).shaped (by decide), ?_⟩
        refine ⟨_, rfl, ?_⟩
        rw [eqv_ints, asc_dec hp hs]
        by_cases hA : ls.Pairwise (· ≤ ·)
        · rw [decide_eq_true hA]
          refine iteF ?_
          trivial
          refine ⟨fl, ns, rfl, .of hf5, fun ns' p2 hp2 hs2 hpn2 => ?_⟩
          trivial
          have e6 := e5.put hpn2 (.lst (ns'.map V.int))
          have hf6 : upd (upd H1 p (.lst (ls'.map V.int))) p2 (.lst (ns'.map V.int)) fl = some (.lst (ns.map V.int)) := by rw [upd_ne (ne_of_none hf5 hpn2)]; exact hf5
          refine ⟨fl, _, rfl, .inl (.of hf6), ?_⟩
          refine ⟨_, rfl, by omega, by rw [List.length_map]; omega, fun D hD => ?_⟩
          rw [List.length_map, Int.toNat_natCast]
          refine lcm_range (n := ns.length) (fun i => some (V.int (0 + (i : Nat)))) hD (small_ (by omega)) (fun i Hx hi ex Y N y nn => ?_) (fun Hx ex hD5 => ?_)
          · refine ⟨rfl, ?_⟩
            trivial
            exact y _ _ (L2.Same.refl _) rfl
          · rw [fm_dom] at hD5
            have e7 := e6.trans ex
            have hp7 := ex _ _ (upd_same (H := upd H1 p (.lst (ls'.map V.int))) (a := p2) (o := .lst (ns'.map V.int)))
            have hf7 := ex _ _ hf6
            refine ⟨_, _, dp_lst (.of hp7), dp_lst (.of hD5), (Bd.ints (m := 0) _).shaped (by decide), (Bd.ints (m := 0) _).shaped (by decide), ?_⟩
            refine ⟨_, rfl, ?_⟩
            rw [eqv_ints, sorted_dom hp2 hs2]
            by_cases hR : isRange ns
            · rw [decide_eq_true hR]
              refine iteF ?_
              trivial
              refine ⟨fl, _, rfl, .inl (.of hf7), ?_⟩
              trivial
              rw [List.length_map]
              by_cases hle : ns.length ≤ 12
              · rw [decide_eq_false (show ¬ (12 : Int) < (ns.length : Nat) by omega)]
                refine iteF ?_
                trivial
                refine ⟨fl, _, rfl, .inl (.of hf7), ?_⟩
                have z := hqq _ e7
                rw [if_pos ⟨hA, hR, hle⟩] at z
                rw [List.length_map]
                exact z
              · rw [decide_eq_true (show (12 : Int) < (ns.length : Nat) by omega)]
                refine iteT ?_
                have z := hqq _ e7
                rw [if_neg (fun y => hle y.2.2)] at z
                exact z
            · rw [decide_eq_false hR]
              refine iteT ?_
              have z := hqq _ e7
              rw [if_neg (fun y => hR y.2.1)] at z
              exact z
        · rw [decide_eq_false hA]
          refine iteT ?_
          have z := hqq _ e5
          rw [if_neg (fun y => hA y.1)] at z
          exact z
end
end G93

set_option Elab.async false
set_option linter.all false
set_option maxRecDepth 100000
set_option maxHeartbeats 4000000
/-! who is alive behind a row -/
namespace G93
open PySem PySem.Spec PyProof.Rows L2
local macro_rules | `(tactic| trivial) => `(tactic| (repeat (first | refine ⟨_, rfl, ?_⟩ | refine ⟨_, _, rfl, rfl, ?_⟩ | refine .inl ⟨_, rfl, ?_⟩ | refine ⟨_, _, rfl, ?_⟩)))
abbrev s_law_after : Stmt := top 37
theorem sc_law_after : FnScope ["_law_alive", "_law_row", "_law_gone", "_law_group", "_law_name"] ["_law_alive", "_law_row"] (defScope s_law_after) := ⟨rfl, rfl, rfl, by decide +kernel, rfl, by decide +kernel, by decide +kernel⟩
def spAfter : Sp := fun vs H Q _ => ∃ (l r : Addr) (al : List Int) (row : List (List Int)), vs = [.ref l, .ref r] ∧ H l = some (.lst (al.map V.int)) ∧ Tp H (.ref r) (rowD row) ∧ al.length ≤ 1000 ∧ (∀ g ∈ row, 2 ≤ g.length) ∧ row.flatten.length ≤ 1000 ∧
  ∀ r' H', Same H H' → H r' = none → H' r' = some (.lst ((al.filter fun x => decide (x ∉ tails row)).map V.int)) → Q (.ref r') H'
theorem fm_id (l : List V) : l.filterMap (fun v => some v) = l := by
  induction l with
  | nil => rfl
  | cons x r ih => rw [List.filterMap_cons, ih]
theorem fm_filter (p : Int → Bool) (l : List Int) : (l.map V.int).filterMap (fun v => match v with | .int x => if p x = true then some (V.int x) else none | _ => none) = (l.filter p).map V.int := by
  induction l with
  | nil => rfl
  | cons x r ih =>
    rw [List.map_cons, List.filterMap_cons, ih, List.filter_cons]
    by_cases h : p x = true
    · simp [h]
    · simp [h]
theorem tails_len (row : List (List Int)) : (tails row).length ≤ row.flatten.length := by
  induction row with
  | nil => exact Nat.le_refl _
  | cons g r ih =>
    unfold tails at ih ⊢
    rw [List.flatMap_cons, List.flatten_cons, List.length_append, List.length_append, List.length_tail]
    omega
theorem tails_take {row : List (List Int)} {i : Nat} {g : List Int} (h : row[i]? = some g) : tails (row.take (i + 1)) = tails (row.take i) ++ g.tail := by
  unfold tails
  rw [take_snoc h, List.flatMap_append, List.flatMap_cons, List.flatMap_nil, List.append_nil]
section
variable {P : Program} {w : World} {K : PySem.W.Frag} {mg : Str → Option Value} {base : Heap} {f : Addr} {fd : FuncData}
theorem ok_after (F : Fun K "_law_after" "_law_after" s_law_after f fd) (B : Bi mg) : FnOk P w K mg base CX0 1 f fd ["_law_alive", "_law_row"] spAfter := by
  refine F.ok sc_law_after (fun vs H Q E h => ?_) (fun cdv A outer s H vs Q E hr h => ?_)
  · obtain ⟨_, _, _, _, rfl, _⟩ := h
    rfl
  obtain ⟨l, r, al, row, rfl, hl, hrow, hal, h2, hfl, q⟩ := h
  obtain ⟨xs, hT, ts⟩ := hrow.tup_ref
  have hlen : xs.length = row.length := by rw [ts.len, List.length_map]
  refine ⟨_, (pss_cons (ps_set (i := 2) sc_law_after.nd rfl (Or.inr rfl) (pe_lst pa_nil))
      (pss_cons (ps_for PassesOwn.never rfl (pi_tup (pv 1)) (pg_name (i := 3) sc_law_after.nd rfl (Or.inl rfl))
        (pss_one (ps_set (i := 2) sc_law_after.nd rfl (Or.inr rfl) (pe_op op_cat (pv 2) (pe_lc (own := [("_law_name", 4)]) rfl sc_law_after.nd (pi_tup (pe_slice sl_tupA (pv 3) (po_some pe_int) po_none)) (blkOk_by (own := [("_law_name", 4)]) (N := ["_law_alive", "_law_row", "_law_gone", "_law_group", "_law_name"]) (sc := defScope s_law_after) (by decide +kernel)) (fun _ _ _ _ _ => (pg_name (i := 4) sc_law_after.nd rfl (Or.inl rfl))) (fun _ _ _ _ _ => pts_nil) (fun _ _ _ _ _ => (pv 4)))))))
      (pss_one (ps_ret (pe_lc (own := [("_law_name", 4)]) rfl sc_law_after.nd (pi_list (pv 0)) (blkOk_by (own := [("_law_name", 4)]) (N := ["_law_alive", "_law_row", "_law_gone", "_law_group", "_law_name"]) (sc := defScope s_law_after) (by decide +kernel)) (fun _ _ _ _ _ => (pg_name (i := 4) sc_law_after.nd rfl (Or.inl rfl))) (fun _ _ _ _ _ => (pts_one (pt_cmpR (op_notIn_seqK K rfl) (pv 4) (pv 2) (by rfl)))) (fun _ _ _ _ _ => (pv 4)))))))
   , ?_⟩
  refine ⟨(by show 0 ≤ sizeLine; decide), fun g0 hg0 => ?_⟩
  have e0 := L2.Same.of_new hg0 (.lst [])
  trivial
  refine ⟨⟨_, .of (e0 _ _ hT)⟩, ?_⟩
  refine for_tup (xs := xs) (fun i σ H1 => ∃ (ga : Addr) (u : Option V), σ = [some (.ref l), some (.ref r), some (.ref ga), u, none] ∧ Same H H1 ∧ H1 ga = some (.lst ((tails (row.take i)).map V.int))) ⟨g0, _, rfl, e0, upd_same⟩ (fun i σ H1 hi h => ?_) (fun i x σ H1 hx h => ?_) (fun σ H1 h => ?_)
  · obtain ⟨_, _, rfl, e, _⟩ := h
    exact .of (e _ _ hT)
  · obtain ⟨ga, u, rfl, e, hga⟩ := h
    obtain ⟨g1, hg1, tg⟩ := ts.get hx
    obtain ⟨g, hg, rfl⟩ := get_map hg1
    obtain ⟨gb, rfl, hgb⟩ := dI_at tg
    have hg2 := h2 g (List.mem_of_getElem? hg)
    have htl : (tails (row.take (i + 1))).length ≤ 1000 := Nat.le_trans (tails_len _) (Nat.le_trans (List.take_sublist (i + 1) row).flatten_len hfl)
    trivial
    have hcut : cutV (g.map V.int) (some 1) none = g.tail.map V.int := by
      have z := cut_from (xs := g.map V.int) (i := 1) (by rw [List.length_map]; omega)
      rw [show (some (1 : Int)) = some ((1 : Nat) : Int) from rfl, z, List.drop_one, List.map_tail]
    refine ⟨gb, _, rfl, .of (e _ _ hgb), fun z => ?_, fun _ p hp => ?_⟩
    · have z1 := z.1
      rw [show (some (1 : Int)) = some ((1 : Nat) : Int) from rfl, HT.sIx_nat, List.length_map] at z1
      omega
    rw [hcut]
    have e1 := e.put hp (.tup (g.tail.map V.int))
    trivial
    refine ⟨⟨_, .of upd_same⟩, fun D hD => lcm_tup (xs := g.tail.map V.int) (fun v => some v) hD (.of upd_same) ?_ (fun j x Hx hx ex Y N y nn => ?_) (fun Hx ex hD2 => ?_)⟩
    · have z : g.tail.length ≤ 1000 := by
        rw [tails_take hg, List.length_append] at htl
        omega
      exact small_ (by rw [List.length_map]; omega)
    · refine ⟨rfl, ?_⟩
      trivial
      exact y _ _ (L2.Same.refl _) rfl
    · rw [fm_id] at hD2
      have hga2 : Hx ga = some (.lst ((tails (row.take i)).map V.int)) := ex _ _ ((L2.Same.of_new hp _) _ _ hga)
      refine ⟨ga, D, _, _, rfl, rfl, hga2, hD2, ?_, fun g2 hg2' => ?_⟩
      · rw [tails_take hg, List.length_append] at htl
        rw [List.length_map, List.length_map]
        exact small_ (by omega)
      · exact ⟨g2, _, rfl, (e1.trans ex).put hg2' _, by rw [upd_same, tails_take hg, List.map_append]⟩
  · obtain ⟨ga, u, rfl, e, hga⟩ := h
    rw [hlen, List.take_length] at hga
    trivial
    refine ⟨⟨_, .of (e _ _ hl)⟩, fun D hD => lcm_list (xs := al.map V.int) (fun v => match v with | .int x => if decide (x ∉ tails row) = true then some (V.int x) else none | _ => none) hD (.of (e _ _ hl)) ?_ (fun j x Hx hx ex Y N y nn => ?_) (fun Hx ex hD2 => ?_)⟩
    · rw [List.length_map]
      exact small_ (by omega)
    · obtain ⟨k, hk, rfl⟩ := get_map hx
      refine ⟨rfl, ?_⟩
      trivial
      refine ⟨ga, _, rfl, .inl (.of (ex _ _ hga)), rfl, flat_ints _, ?_⟩
      rw [inV_ints]
      by_cases hm : k ∈ tails row
      · rw [decide_eq_true hm]
        refine ⟨_, rfl, iteF ?_⟩
        exact nn _ (L2.Same.refl _) (if_neg (by simp [hm]))
      · rw [decide_eq_false hm]
        refine ⟨_, rfl, iteT ?_⟩
        refine ⟨_, rfl, ?_⟩
        exact y _ _ (L2.Same.refl _) (if_pos (by simp [hm]))
    · rw [fm_filter] at hD2
      exact q _ _ (e.trans ex) (e.free hD) hD2
end
end G93

set_option Elab.async false
set_option linter.all false
set_option maxRecDepth 100000
set_option maxHeartbeats 4000000
/-! plain laws: a tree that grows day by day -/
namespace G93
open PySem
theorem leG_iff (a b : List Int) : leG a b = true ↔ a ≤ b := by
  unfold leG
  simp only [Bool.not_eq_true', decide_eq_false_iff_not]
  exact Iff.rfl
theorem leG_trans (a b c : List Int) (h1 : leG a b = true) (h2 : leG b c = true) : leG a c = true :=
  (leG_iff a c).mpr (List.le_trans ((leG_iff a b).mp h1) ((leG_iff b c).mp h2))
theorem leG_total (a b : List Int) : (leG a b || leG b a) = true := by
  rcases List.le_total a b with h | h
  · rw [(leG_iff a b).mpr h]; rfl
  · rw [(leG_iff b a).mpr h, Bool.or_true]
/-- who is alive behind so many rows -/
def aliveAfter (born : List Int) : Nat → (Int → Prop) → List (List (List Int)) → Int → Prop
  | _, A, [] => A
  | d, A, row :: rows => aliveAfter born (d + 1) (fun x => (A x ∨ NB born d x) ∧ x ∉ tails row) rows
theorem TreeOk.snoc {born : List Int} : ∀ {d : Nat} {A : Int → Prop} {ps : List (List Int)} {rows : List (List (List Int))} {p : List Int} {row : List (List Int)}, TreeOk born d A ps rows →
    RowOk (fun x => aliveAfter born d A rows x ∨ NB born (d + rows.length) x) p row → TreeOk born d A (ps ++ [p]) (rows ++ [row])
  | d, A, [], [], p, row, _, h => ⟨h, trivial⟩
  | _, _, [], _ :: _, _, _, h, _ => h.elim
  | _, _, _ :: _, [], _, _, h, _ => h.elim
  | d, A, p0 :: ps, r0 :: rows, p, row, h, h2 => by
    refine ⟨h.1, TreeOk.snoc h.2 ?_⟩
    have e : d + 1 + rows.length = d + (r0 :: rows).length := by simp; omega
    rw [e]
    exact h2
theorem aliveAfter_snoc {born : List Int} : ∀ {d : Nat} {A : Int → Prop} {rows : List (List (List Int))} {row : List (List Int)} {x : Int}, aliveAfter born d A (rows ++ [row]) x ↔ (aliveAfter born d A rows x ∨ NB born (d + rows.length) x) ∧ x ∉ tails row
  | d, A, [], row, x => Iff.rfl
  | d, A, r0 :: rows, row, x => by
    show aliveAfter born (d + 1) _ (rows ++ [row]) x ↔ _
    rw [aliveAfter_snoc]
    have e : d + 1 + rows.length = d + (r0 :: rows).length := by simp; omega
    rw [e]
    exact Iff.rfl
/-- born at d, in order -/
def nbL (born : List Int) (d : Nat) : List Int := (dom0 born.length).filter fun x => decide (born[x.toNat]? = some (d : Int))
theorem nbL_mem {born : List Int} {d : Nat} {x : Int} : x ∈ nbL born d ↔ NB born d x := by
  unfold nbL
  rw [List.mem_filter, decide_eq_true_iff, mem_dom0]
  constructor
  · rintro ⟨h1, h2⟩
    exact ⟨x.toNat, by omega, h2⟩
  · rintro ⟨k, rfl, h⟩
    have := (List.getElem?_eq_some_iff.mp h).1
    exact ⟨by omega, by simpa using h⟩
theorem nbL_nodup (born : List Int) (d : Nat) : (nbL born d).Nodup := (dom0_nodup _).filter _
theorem nbL_asc (born : List Int) (d : Nat) : (nbL born d).Pairwise (· < ·) := (dom0_asc _).sublist List.filter_sublist
theorem filt_count {d : Int} : ∀ (born : List Int) (k : Nat), (((List.range born.length).map fun i => ((k + i : Nat) : Int)).filter fun x => decide (born[x.toNat - k]? = some d)).length = born.count d
  | [], k => rfl
  | b :: r, k => by
    have ih := filt_count (d := d) r (k + 1)
    rw [List.length_cons, List.range_succ_eq_map, List.map_cons, List.map_map, List.filter_cons, List.count_cons]
    have e1 : (b :: r)[((k + 0 : Nat) : Int).toNat - k]? = some b := by simp
    have e2 : ((List.range r.length).map ((fun i => ((k + i : Nat) : Int)) ∘ Nat.succ)).filter (fun x => decide ((b :: r)[x.toNat - k]? = some d)) = ((List.range r.length).map fun i => ((k + 1 + i : Nat) : Int)).filter fun x => decide (r[x.toNat - (k + 1)]? = some d) := by
      have e3 : (List.range r.length).map ((fun i => ((k + i : Nat) : Int)) ∘ Nat.succ) = (List.range r.length).map fun i => ((k + 1 + i : Nat) : Int) := by
        refine List.map_congr_left fun i _ => ?_
        show ((k + (i + 1) : Nat) : Int) = _
        congr 1
        omega
      rw [e3]
      refine List.filter_congr fun x hx => ?_
      obtain ⟨i, _, rfl⟩ := List.mem_map.mp hx
      have e4 : ((k + 1 + i : Nat) : Int).toNat - k = (((k + 1 + i : Nat) : Int).toNat - (k + 1)) + 1 := by omega
      rw [e4, List.getElem?_cons_succ]
    rw [e2]
    by_cases h : b = d
    · subst h
      rw [if_pos (by rw [e1]; exact decide_eq_true rfl), List.length_cons, ih, if_pos (by simp)]
    · rw [if_neg (by rw [e1]; simp [h]), ih, if_neg (by simp [h])]
      rfl
theorem nbL_len (born : List Int) (d : Nat) : (nbL born d).length = born.count (d : Int) := by
  have h := filt_count (d := (d : Int)) born 0
  rw [← h]
  unfold nbL dom0
  congr 1
  have e : (List.range born.length).map Int.ofNat = (List.range born.length).map fun i => ((0 + i : Nat) : Int) := List.map_congr_left fun i _ => by rw [Nat.zero_add]; rfl
  rw [e]
  rfl
theorem sum_len (row : List (List Int)) : (row.map fun g => (g.length : Int)).sum = row.flatten.length := by
  induction row with
  | nil => rfl
  | cons g r ih => rw [List.map_cons, List.sum_cons, ih, List.flatten_cons, List.length_append]; omega
theorem tails_length {row : List (List Int)} (h : ∀ g ∈ row, 2 ≤ g.length) : (tails row).length + row.length = row.flatten.length := by
  induction row with
  | nil => rfl
  | cons g r ih =>
    have := ih fun x hx => h x (List.mem_cons_of_mem _ hx)
    have h2 := h g List.mem_cons_self
    unfold tails at this ⊢
    rw [List.flatMap_cons, List.flatten_cons, List.length_append, List.length_append, List.length_tail, List.length_cons]
    omega
theorem tails_sub (row : List (List Int)) : (tails row).Sublist row.flatten := by
  induction row with
  | nil => exact .slnil
  | cons g r ih =>
    unfold tails at ih ⊢
    rw [List.flatMap_cons, List.flatten_cons]
    exact (List.tail_sublist g).append ih
theorem perm_sum {a b : List Int} (h : a.Perm b) : a.sum = b.sum := by
  induction h with
  | nil => rfl
  | cons x _ ih => rw [List.sum_cons, List.sum_cons, ih]
  | swap x y l => rw [List.sum_cons, List.sum_cons, List.sum_cons, List.sum_cons]; omega
  | trans _ _ h1 h2 => rw [h1, h2]
theorem after_len {A : Int → Prop} {al p : List Int} {row : List (List Int)} (hn : al.Nodup) (hm : ∀ x, x ∈ al ↔ A x) (R : RowOk A p row) :
    ((al.filter fun x => decide (x ∉ tails row)).length : Int) = al.length - p.sum + p.length := by
  have h1 : (tails row).Nodup := (tails_sub row).nodup R.nd
  have h2 : ∀ x ∈ tails row, x ∈ al := fun x hx => by
    obtain ⟨g, hg, hx2⟩ := mem_tails hx
    exact (hm x).mpr ((R.grp g hg).2.2 x hx2)
  have h3 := (nodup_sub h1 h2 hn).length_eq
  have h4 := (List.filter_append_perm (fun x => decide (x ∈ tails row)) al).length_eq
  rw [List.length_append, ← h3] at h4
  have h5 : (al.filter fun x => !decide (x ∈ tails row)) = al.filter fun x => decide (x ∉ tails row) := List.filter_congr fun x _ => by simp
  rw [h5] at h4
  have h6 := tails_length fun g hg => (R.grp g hg).2.1
  have h7 := sum_len row
  rw [perm_sum R.sz] at h7
  have h8 := R.sz.length_eq
  rw [List.length_map] at h8
  omega
/-- a row out of groups that were drawn -/
theorem row_of {A : Int → Prop} {al p : List Int} {gs gs' : List (List Int)} {rest : List Int} (hp : gs'.Perm gs) (hs : gs'.Pairwise fun a b => leG a b = true) (hA : ∀ x, x ∈ al ↔ A x) (hn : al.Nodup) (hperm : (gs.flatten ++ rest).Perm al) (hasc : ∀ g ∈ gs, g.Pairwise (· < ·)) (h2 : ∀ g ∈ gs, 2 ≤ g.length)
    (hsz : gs.map (fun g => (g.length : Int)) = p) : RowOk A p gs' := by
  have hnd := hperm.nodup_iff.mpr hn
  rw [List.nodup_append] at hnd
  refine ⟨fun g hg => ?_, ?_, hs, ?_⟩
  · have hg2 := hp.mem_iff.mp hg
    refine ⟨hasc g hg2, h2 g hg2, fun x hx => (hA x).mp (hperm.mem_iff.mp ?_)⟩
    exact List.mem_append.mpr (.inl (List.mem_flatten.mpr ⟨g, hg2, hx⟩))
  · exact (hp.flatten.nodup_iff).mpr hnd.1
  · have := hp.map fun g => (g.length : Int)
    rw [hsz] at this
    exact this
theorem erase_perm {l : List Int} {k : Nat} {y : Int} (h : l[k]? = some y) : l.Perm (y :: l.eraseIdx k) := by
  obtain ⟨h1, h2⟩ := List.getElem?_eq_some_iff.mp h
  have e : l = l.take k ++ y :: l.drop (k + 1) := by
    have z := (List.take_append_drop k l).symm
    rw [List.drop_eq_getElem_cons h1, h2] at z
    exact z
  rw [List.eraseIdx_eq_take_drop_succ]
  have z : (l.take k ++ y :: l.drop (k + 1)).Perm (y :: (l.take k ++ l.drop (k + 1))) := List.perm_middle
  rw [← e] at z
  exact z
theorem le_lt {l : List Int} (h : l.Pairwise (· ≤ ·)) (hn : l.Nodup) : l.Pairwise (· < ·) :=
  List.Pairwise.imp₂ (fun a b h1 (h2 : a ≠ b) => by omega) h hn
end G93

set_option Elab.async false
set_option linter.all false
set_option maxRecDepth 100000
set_option maxHeartbeats 8000000
/-! a drawn tree -/
namespace G93
open PySem PySem.Spec PyProof.Rows L2
local macro_rules | `(tactic| trivial) => `(tactic| (repeat (first | refine ⟨_, rfl, ?_⟩ | refine ⟨_, _, rfl, rfl, ?_⟩ | refine .inl ⟨_, rfl, ?_⟩ | refine ⟨_, _, rfl, ?_⟩)))
abbrev s_law_tree : Stmt := top 42
theorem sc_law_tree : FnScope ["_law_source", "_law_calendar", "_law_born", "_law_days", "_law_found", "_law_alive", "_law_d", "_law_row", "_law_left", "_law_size", "_law_group", "_law_turn", "_law_x", "_law_name"] ["_law_source", "_law_calendar"] (defScope s_law_tree) := ⟨rfl, rfl, rfl, by decide +kernel, rfl, by decide +kernel, by decide +kernel⟩
theorem TS.updL {H : Hp} {r : Addr} {xs : List V} (h : H r = some (.lst xs)) (o : HO) : TS H (upd H r o) :=
  ⟨fun b xs q => by rw [upd_ne (ne_of q h (by intro z; cases z))]; exact q, fun b o u q => by rw [upd_ne (ne_of q h (by intro z; cases z))]; exact q⟩
def spTreeD : Sp := fun vs H Q _ => ∃ (s cal vb vd : Addr) (born : List Int) (days : List (List Int)), vs = [.ref s, .ref cal] ∧ Src H s ∧ Pair H cal vb vd ∧ CalAt H vb vd born days ∧ CalOk born days ∧
  ∀ r rows H', Src H' s → Kp s H H' → Tp H' (.ref r) (treeD rows) → TreeOk born 0 (fun _ => False) days rows → Q (.ref r) H'
theorem fm_nb (born : List Int) (d : Nat) : (List.range born.length).filterMap (fun k => if born[k]? = some (d : Int) then some (V.int (0 + (k : Nat))) else none) = (nbL born d).map V.int := by
  have h : ∀ l : List Nat, l.filterMap (fun k => if born[k]? = some (d : Int) then some (V.int (0 + (k : Nat))) else none) = ((l.map Int.ofNat).filter fun x => decide (born[x.toNat]? = some (d : Int))).map V.int := fun l => by
    induction l with
    | nil => rfl
    | cons k r ih =>
      rw [List.filterMap_cons, List.map_cons, List.filter_cons, ih]
      have e : (Int.ofNat k).toNat = k := rfl
      rw [e]
      by_cases h : born[k]? = some (d : Int)
      · rw [if_pos h, if_pos (decide_eq_true h), List.map_cons]
        show V.int (0 + (k : Int)) :: _ = V.int (k : Int) :: _
        rw [Int.zero_add]
      · rw [if_neg h, if_neg (by simp [h])]
  exact h _
theorem erase_map : ∀ (l : List Int) (k : Nat), (l.map V.int).eraseIdx k = (l.eraseIdx k).map V.int
  | [], _ => rfl
  | _ :: _, 0 => rfl
  | x :: r, k + 1 => by
    rw [List.map_cons, List.eraseIdx_cons_succ, List.eraseIdx_cons_succ, List.map_cons, erase_map r k]
theorem Kp.free {s p : Addr} {H H' : Hp} (e : Kp s H H') (hs : p ≠ s) (h : H' p = none) : H p = none := by
  cases q : H p with
  | none => rfl
  | some o =>
    rw [e p o hs q] at h
    cases h
theorem tps_pairs {H : Hp} : ∀ {zz : List (V × List Int)}, (∀ pr ∈ zz, Tp H pr.1 (dI pr.2)) → Tps H (zz.map (·.1)) (zz.map (dI ∘ (·.2)))
  | [], _ => .nil
  | pr :: r, h => .cons (h pr List.mem_cons_self) (tps_pairs fun x hx => h x (List.mem_cons_of_mem _ hx))
theorem take_sum_le : ∀ {p : List Int} {j : Nat}, (∀ x ∈ p, 0 ≤ x) → (p.take j).sum ≤ p.sum
  | [], j, _ => by simp
  | x :: r, 0, h => by
    have := take_sum_le (p := r) (j := 0) fun y hy => h y (List.mem_cons_of_mem _ hy)
    have := h x List.mem_cons_self
    rw [List.take_zero] at *
    rw [List.sum_cons]
    simp at *
    omega
  | x :: r, j + 1, h => by
    have := take_sum_le (p := r) (j := j) fun y hy => h y (List.mem_cons_of_mem _ hy)
    rw [List.take_succ_cons, List.sum_cons, List.sum_cons]
    omega
section
variable {P : Program} {w : World} {K : PySem.W.Frag} {mg : Str → Option Value} {base : Heap} {f : Addr} {fd : FuncData}
theorem ok_ltree (F : Fun K "_law_tree" "_law_tree" s_law_tree f fd) (B : Bi mg) (C_law_take : Cal P w K mg base CX0 1 "_law_take" ["_law_source", "_law_top"] spTake) (C_law_after : Cal P w K mg base CX0 1 "_law_after" ["_law_alive", "_law_row"] spAfter) :
    FnOk P w K mg base CX0 2 f fd ["_law_source", "_law_calendar"] spTreeD := by
  refine F.ok sc_law_tree (fun vs H Q E h => ?_) (fun cdv A outer s H vs Q E hr h => ?_)
  · obtain ⟨_, _, _, _, _, _, rfl, _⟩ := h
    rfl
  obtain ⟨s, cal, vb, vd, born, days, rfl, hS, hP, hC, hO, q⟩ := h
  have hhi := hO.hi
  have hdl := hO.dl
  obtain ⟨ys, hTd, tsd⟩ := hC.d.tup_ref
  have hyl : ys.length = days.length := by rw [tsd.len, List.length_map]
  refine ⟨_, (pss_cons (ps_asg (pv 1) (pg_tup rfl (pgs_cons (pg_name (i := 2) sc_law_tree.nd rfl (Or.inr rfl)) (pgs_cons (pg_name (i := 3) sc_law_tree.nd rfl (Or.inl rfl)) pgs_nil))))
      (pss_cons (ps_par (i := 4) (j := 5) rfl sc_law_tree.nd rfl rfl (by decide) rfl rfl (pa_cons (pe_tup pa_nil) (pa_cons (pe_lst pa_nil) pa_nil)) (by rfl))
      (pss_cons (ps_for PassesOwn.never rfl (pi_range1 (by rfl) B.range_ (pa_cons (pe_callB call_len_seq (by rfl) B.len_ (by decide +kernel) (pa_cons (pv 3) pa_nil)) pa_nil)) (pg_name (i := 6) sc_law_tree.nd rfl (Or.inr rfl))
        (pss_cons (ps_set (i := 5) sc_law_tree.nd rfl (Or.inl rfl) (pe_callB cr_sortedI (by rfl) B.sorted_ (by decide +kernel) (pa_cons (pe_op op_cat (pv 5) (pe_lc (own := [("_law_x", 12)]) rfl sc_law_tree.nd (pi_range1 (by rfl) B.range_ (pa_cons (pe_callB call_len_seq (by rfl) B.len_ (by decide +kernel) (pa_cons (pv 2) pa_nil)) pa_nil)) (blkOk_by (own := [("_law_x", 12)]) (N := ["_law_source", "_law_calendar", "_law_born", "_law_days", "_law_found", "_law_alive", "_law_d", "_law_row", "_law_left", "_law_size", "_law_group", "_law_turn", "_law_x", "_law_name"]) (sc := defScope s_law_tree) (by decide +kernel)) (fun _ _ _ _ _ => (pg_name (i := 12) sc_law_tree.nd rfl (Or.inl rfl))) (fun _ _ _ _ _ => (pts_one (pt_cmpR op_eq (pe_ix (ix_tupK K rfl) (pv 2) (pv 12) (fun _ _ => rfl)) (pv 6) (nomark _)))) (fun _ _ _ _ _ => (pv 12)))) pa_nil)))
        (pss_cons (ps_par (i := 7) (j := 8) rfl sc_law_tree.nd rfl rfl (by decide) rfl rfl (pa_cons (pe_tup pa_nil) (pa_cons (pe_lc (own := [("_law_name", 13)]) rfl sc_law_tree.nd (pi_list (pv 5)) (blkOk_by (own := [("_law_name", 13)]) (N := ["_law_source", "_law_calendar", "_law_born", "_law_days", "_law_found", "_law_alive", "_law_d", "_law_row", "_law_left", "_law_size", "_law_group", "_law_turn", "_law_x", "_law_name"]) (sc := defScope s_law_tree) (by decide +kernel)) (fun _ _ _ _ _ => (pg_name (i := 13) sc_law_tree.nd rfl (Or.inl rfl))) (fun _ _ _ _ _ => pts_nil) (fun _ _ _ _ _ => (pv 13))) pa_nil)) (by rfl))
        (pss_cons (ps_for PassesOwn.never rfl (pi_tup (pe_ix ix_tup (pv 3) (pv 6) (fun _ _ => rfl))) (pg_name (i := 9) sc_law_tree.nd rfl (Or.inl rfl))
          (pss_cons (ps_set (i := 10) sc_law_tree.nd rfl (Or.inl rfl) (pe_lst pa_nil))
          (pss_cons (ps_for PassesOwn.never rfl (pi_range1 (by rfl) B.range_ (pa_cons (pv 9) pa_nil)) (pg_name (i := 11) sc_law_tree.nd rfl (Or.inl rfl))
            (pss_one (ps_expr (pe_bm PySem.F.plainAttrs_list PySem.F.slot_list_append PySem.F.type_list_append mt_append (pv 10) (pa_cons (pe_bm PySem.F.plainAttrs_list PySem.F.slot_list_pop PySem.F.type_list_pop mt_popAt (pv 8) (pa_cons (pe_callC C_law_take (hr.mono (by decide)) (by rfl) pass0 (pa_cons (pv 0) (pa_cons (pe_callB call_len_seq (by rfl) B.len_ (by decide +kernel) (pa_cons (pv 8) pa_nil)) pa_nil))) pa_nil)) pa_nil)))))
          (pss_one (ps_set (i := 7) sc_law_tree.nd rfl (Or.inl rfl) (pe_op op_catA (pv 7) (pe_tup (pa_cons (pe_callTy call_tuple_of (by rfl) B.tuple_ (by decide +kernel) (pa_cons (pe_callB cr_sortedI (by rfl) B.sorted_ (by decide +kernel) (pa_cons (pv 10) pa_nil)) pa_nil)) pa_nil))))))))
        (pss_cons (ps_set (i := 4) sc_law_tree.nd rfl (Or.inl rfl) (pe_op op_catA (pv 4) (pe_tup (pa_cons (pe_callTy call_tuple_of (by rfl) B.tuple_ (by decide +kernel) (pa_cons (pe_callB (cr_sortTT (hu4_of hr)) (by rfl) B.sorted_ (by decide +kernel) (pa_cons (pv 7) pa_nil)) pa_nil)) pa_nil))))
        (pss_one (ps_set (i := 5) sc_law_tree.nd rfl (Or.inl rfl) (pe_callC C_law_after (hr.mono (by decide)) (by rfl) pass0 (pa_cons (pv 5) (pa_cons (pe_ix ix_tup (pv 4) (pv 6) (fun _ _ => rfl)) pa_nil))))))))))
      (pss_one (ps_ret (pv 4))))))
   , ?_⟩
  trivial
  refine ⟨cal, _, rfl, .of hP, rfl, ?_⟩
  trivial
  refine ⟨(by show 0 ≤ sizeLine; decide), fun f0 hf0 => ?_⟩
  refine ⟨(by show 0 ≤ sizeLine; decide), fun a0 ha0 => ?_⟩
  have e0 := (L2.Same.of_new hf0 (.tup [])).put ha0 (.lst [])
  trivial
  refine ⟨vd, _, rfl, .inr (.of (e0 _ _ hTd)), ?_⟩
  refine ⟨_, rfl, by omega, by omega, ?_⟩
  rw [Int.toNat_natCast, hyl]
  have hS0 := hS.same e0
  have ha0s : a0 ≠ s := fun z => by
    obtain ⟨x, y, hH, _⟩ := hS.same (L2.Same.of_new hf0 (.tup []))
    rw [z, hH] at ha0
    cases ha0
  refine for_range (n := days.length) (fun i σ H1 => ∃ (fa la : Addr) (u6 u7 u8 u9 u10 u11 : Option V) (rows : List (List (List Int))) (al : List Int), σ = [some (.ref s), some (.ref cal), some (.ref vb), some (.ref vd), some (.ref fa), some (.ref la), u6, u7, u8, u9, u10, u11, none, none] ∧ Src H1 s ∧ Kp s H H1 ∧ Tp H1 (.ref fa) (treeD rows) ∧
      rows.length = i ∧ TreeOk born 0 (fun _ => False) (days.take i) rows ∧ H1 la = some (.lst (al.map V.int)) ∧ la ≠ s ∧ al.Pairwise (· < ·) ∧ (∀ x, x ∈ al ↔ aliveAfter born 0 (fun _ => False) rows x) ∧ (al.length : Int) = nowAt born days i ∧ (∀ x ∈ al, ∃ e, e < i ∧ NB born e x))
    ⟨f0, a0, _, _, _, _, _, _, [], [], rfl, hS0, e0.kp, Tps.mk' (by rw [upd_ne (ne_of_none (upd_same (H := H)) ha0), upd_same]) .nil, rfl, True.intro, upd_same, ha0s, .nil, fun x => ⟨fun h => (by cases h), fun h => h.elim⟩, rfl, fun x h => (by cases h)⟩ (fun i σ H1 hi h => ?_) (fun σ H1 h => ?_)
  · obtain ⟨fa, la, u6, u7, u8, u9, u10, u11, rows, al, rfl, hS1, k1, hfa, hrl, hTO, hla, hlas, hasc, hmem, hnow, hborn⟩ := h
    have hC1 := hC.mono (hS.ts k1)
    trivial
    refine ⟨vb, _, rfl, .inr hC1.b.sqT, ?_⟩
    refine ⟨_, rfl, by omega, by rw [List.length_map]; omega, fun D hD => ?_⟩
    rw [Int.toNat_natCast, List.length_map]
    refine lcm_range (n := born.length) (fun k => if born[k]? = some (i : Int) then some (V.int (0 + (k : Nat))) else none) hD (small_ (by omega)) (fun k Hx hk ex Y N y nn => ?_) (fun H2 e2 hD2 => ?_)
    · refine ⟨rfl, ?_⟩
      trivial
      obtain ⟨b, hb1, hb2⟩ := atI_ints (p := born) (k := 0 + (k : Int)) (by omega) (by omega)
      refine ⟨vb, _, _, _, rfl, rfl, (hC1.mono ex.ts).b.sqT, hb2, ?_⟩
      trivial
      refine ⟨rfl, _, rfl, ?_⟩
      have ek : (0 + (k : Int)).toNat = k := by omega
      rw [ek] at hb1
      by_cases hbd : b = (i : Int)
      · rw [decide_eq_true (show V.int b = V.int (0 + (i : Int)) by rw [hbd, Int.zero_add])]
        refine iteT ?_
        refine ⟨_, rfl, ?_⟩
        exact y _ _ (L2.Same.refl _) (if_pos (by rw [hb1, hbd]))
      · rw [decide_eq_false (show ¬ V.int b = V.int (0 + (i : Int)) from fun z => hbd (by have := V.int.inj z; omega))]
        refine iteF ?_
        exact nn _ (L2.Same.refl _) (if_neg (by rw [hb1]; intro z; exact hbd (Option.some.inj z)))
    · rw [fm_nb] at hD2
      have hla2 := e2 _ _ hla
      have hald : ∀ x ∈ al, x ∈ dom0 born.length := fun x hx => by
        obtain ⟨e, _, k, rfl, hk⟩ := hborn x hx
        have := (List.getElem?_eq_some_iff.mp hk).1
        exact mem_dom0.mpr ⟨by omega, by omega⟩
      have hall := sub_len (asc_nodup hasc) hald
      have hnbl : (nbL born i).length ≤ born.length := by rw [nbL_len]; exact List.count_le_length
      refine ⟨la, D, _, _, rfl, rfl, hla2, hD2, small_ (by rw [List.length_map, List.length_map]; omega), fun c hc => ?_⟩
      have e3 := e2.put hc (.lst (al.map V.int ++ (nbL born i).map V.int))
      refine ⟨c, al ++ nbL born i, rfl, .of (by rw [upd_same, List.map_append]), fun al' la' hp hs hlan => ?_⟩
      have hnd : (al ++ nbL born i).Nodup := List.nodup_append.mpr ⟨asc_nodup hasc, nbL_nodup _ _, fun x hx y hy z => by
        subst z
        obtain ⟨e, he, hb⟩ := hborn x hx
        have := hb.one (nbL_mem.mp hy)
        omega⟩
      have hasc' : al'.Pairwise (· < ·) := le_lt hs (hp.nodup_iff.mpr hnd)
      have hmem' : ∀ x, x ∈ al' ↔ (aliveAfter born 0 (fun _ => False) rows x ∨ NB born (0 + rows.length) x) := fun x => by
        rw [hp.mem_iff, List.mem_append, hmem, nbL_mem, hrl, Nat.zero_add]
      have hlen' : (al'.length : Int) = nowAt born days i + (born.count (i : Int) : Nat) := by
        rw [hp.length_eq, List.length_append, nbL_len]
        omega
      have hal' : al'.length ≤ 24 := by rw [hp.length_eq, List.length_append]; omega
      have e4 := e3.put hlan (.lst (al'.map V.int))
      have hS4 := hS1.same e4
      have hlas' : la' ≠ s := (hS1.same e3).ne' hlan
      have k4 := k1.trans e4.kp
      have hla4 := upd_same (H := upd H2 c (.lst (al.map V.int ++ (nbL born i).map V.int))) (a := la') (o := .lst (al'.map V.int))
      have hfa4 := hfa.mono e4.ts
      generalize hH4 : upd (upd H2 c (.lst (al.map V.int ++ (nbL born i).map V.int))) la' (.lst (al'.map V.int)) = H4 at *
      refine ⟨(by show 0 ≤ sizeLine; decide), fun r0 hr0 => ?_⟩
      have e5 := L2.Same.of_new hr0 (.tup [])
      trivial
      refine ⟨⟨_, .of (e5 _ _ hla4)⟩, fun D2 hD2 => lcm_list (xs := al'.map V.int) (fun v => some v) hD2 (.of (e5 _ _ hla4)) (small_ (by rw [List.length_map]; omega)) (fun k x Hx hk ex Y N y nn => ?_) (fun H6 e6 hD6 => ?_)⟩
      · refine ⟨rfl, ?_⟩
        trivial
        exact y _ _ (L2.Same.refl _) rfl
      rw [fm_id] at hD6
      have hlaD : la' ≠ D2 := ne_of_none (e5 _ _ hla4) hD2
      have hD2s : D2 ≠ s := (hS4.same e5).ne' hD2
      have hD2H := (k4.trans e5.kp).free hD2s hD2
      have e46 := e5.trans e6
      have hS6 := hS4.same e46
      have k6 := k4.trans e46.kp
      have hla6 := e46 _ _ hla4
      have hr6 := e6 _ _ (upd_same (H := H4) (a := r0) (o := .tup []))
      obtain ⟨p, hpd⟩ : ∃ p, days[i]? = some p := ⟨days[i], List.getElem?_eq_getElem hi⟩
      obtain ⟨hpo, hpl⟩ := hO.pat p (List.mem_of_getElem? hpd)
      have hcnt := hO.cnt i hi
      rw [List.getD_eq_getElem?_getD, hpd] at hcnt
      have hcnt : p.sum ≤ al'.length := by rw [hlen']; exact hcnt
      obtain ⟨pv_, hpv, tpv⟩ := tsd.get' (i := i) (d := dI p) (by rw [List.getElem?_map, hpd]; rfl)
      obtain ⟨pa, rfl, hpa⟩ := dI_at tpv
      have hkT : ∀ {Hz}, Kp s H Hz → TS H Hz := fun k => hS.ts k
      trivial
      refine ⟨vd, _, _, _, rfl, rfl, .of ((hkT k6).t _ _ hTd), by rw [Int.zero_add]; exact atI_nat hpv, ?_⟩
      trivial
      refine ⟨⟨_, .of ((hkT k6).t _ _ hpa)⟩, ?_⟩
      refine for_tup (xs := p.map V.int) (fun j σ H7 => ∃ (ra : Addr) (u9 u10 u11 : Option V) (gs : List (List Int)) (rest : List Int) (ws : List V), σ = [some (.ref s), some (.ref cal), some (.ref vb), some (.ref vd), some (.ref fa), some (.ref la'), some (.int (0 + (i : Int))), some (.ref ra), some (.ref D2), u9, u10, u11, none, none] ∧ Src H7 s ∧ Kp s H H7 ∧ Tp H7 (.ref fa) (treeD rows) ∧
          H7 la' = some (.lst (al'.map V.int)) ∧ H7 D2 = some (.lst (rest.map V.int)) ∧ H7 ra = some (.tup ws) ∧ Tps H7 ws (gs.map dI) ∧ (gs.flatten ++ rest).Perm al' ∧ (∀ g ∈ gs, g.Pairwise (· < ·)) ∧ gs.map (fun g => (g.length : Int)) = p.take j)
        ⟨r0, _, _, _, [], al', [], rfl, hS6, k6, hfa4.mono e46.ts, hla6, hD6, hr6, .nil, .refl _, fun g hg => (by cases hg), by simp⟩ (fun j σ H7 hj h => ?_) (fun j x σ H7 hx h => ?_) (fun σ H7 h => ?_)
      · obtain ⟨_, _, _, _, _, _, _, rfl, _, k7, _⟩ := h
        exact .of ((hkT k7).t _ _ hpa)
      · obtain ⟨ra, u9, u10, u11, gs, rest, ws, rfl, hS7, k7, hfa7, hla7, hlf7, hra7, htw, hperm, hgasc, hgsz⟩ := h
        obtain ⟨size, hsz, rfl⟩ := get_map hx
        have hs2 := hpo.two size (List.mem_of_getElem? hsz)
        have hsum : gs.flatten.length = (p.take j).sum := by rw [← sum_len, hgsz]
        have hsum2 : (p.take j).sum + size ≤ p.sum := by
          have z := take_sum_le (p := p) (j := j + 1) fun x hx => by have := hpo.two x hx; omega
          rw [take_snoc hsz, List.sum_append, List.sum_cons, List.sum_nil] at z
          omega
        refine ⟨(by show 0 ≤ sizeLine; decide), fun gA hgA => ?_⟩
        have e8 := L2.Same.of_new hgA (.lst [])
        have hgAs : gA ≠ s := hS7.ne' hgA
        have hgAH := k7.free hgAs hgA
        have hgAl : gA ≠ D2 := fun z => by rw [z, hlf7] at hgA; cases hgA
        have hgAa : gA ≠ la' := fun z => by rw [z, hla7] at hgA; cases hgA
        trivial
        refine ⟨by omega, by omega, ?_⟩
        refine for_range (n := size.toNat) (fun m σ H8 => ∃ (u11 : Option V) (gp rest2 : List Int), σ = [some (.ref s), some (.ref cal), some (.ref vb), some (.ref vd), some (.ref fa), some (.ref la'), some (.int (0 + (i : Int))), some (.ref ra), some (.ref D2), some (.int size), some (.ref gA), u11, none, none] ∧ Src H8 s ∧ Kp s H H8 ∧ TS H7 H8 ∧
            H8 la' = some (.lst (al'.map V.int)) ∧ H8 D2 = some (.lst (rest2.map V.int)) ∧ H8 gA = some (.lst (gp.map V.int)) ∧ gp.length = m ∧ (gs.flatten ++ (gp ++ rest2)).Perm al')
          ⟨_, [], rest, rfl, hS7.same e8, k7.trans e8.kp, e8.ts, e8 _ _ hla7, e8 _ _ hlf7, upd_same, rfl, hperm⟩ (fun m σ H8 hm h => ?_) (fun σ H8 h => ?_)
        · obtain ⟨u11, gp, rest2, rfl, hS8, k8, t8, hla8, hlf8, hgA8, hgp, hperm8⟩ := h
          have hl8 := hperm8.length_eq
          rw [List.length_append, List.length_append] at hl8
          have hpos : 0 < rest2.length := by omega
          trivial
          refine ⟨.inl ⟨rfl, _, .of hgA8⟩, ?_⟩
          trivial
          refine ⟨.inl ⟨rfl, _, .of hlf8⟩, ?_⟩
          trivial
          refine ⟨D2, _, rfl, .inl (.of hlf8), ?_⟩
          rw [List.length_map]
          refine ⟨s, rest2.length, rfl, hS8, by omega, by omega, fun rr H9 rr0 rr1 hS9 k9 => ?_⟩
          obtain ⟨idx, rfl⟩ := Int.eq_ofNat_of_zero_le rr0
          have hidx : idx < rest2.length := by omega
          have hlf9 := k9 _ _ hD2s hlf8
          have hgA9 := k9 _ _ hgAs hgA8
          have hget : rest2[idx]? = some rest2[idx] := List.getElem?_eq_getElem hidx
          refine ⟨D2, _, _, idx, .int rest2[idx], rfl, rfl, hlf9, by omega, by omega, by rw [List.length_map]; exact seqIndex_of (by omega) (by omega), by rw [List.getElem?_map, hget]; rfl, ?_⟩
          have hgA10 : upd H9 D2 (.lst ((rest2.map V.int).eraseIdx idx)) gA = some (.lst (gp.map V.int)) := by rw [upd_ne hgAl]; exact hgA9
          refine ⟨gA, _, _, rfl, rfl, hgA10, small_lt (by rw [List.length_map]; omega), ?_⟩
          have t9 := (hS8.ts k9).trans (TS.updL hlf9 (.lst ((rest2.map V.int).eraseIdx idx)))
          refine ⟨_, gp ++ [rest2[idx]], rest2.eraseIdx idx, rfl, (hS9.up (Ne.symm hD2s)).up (Ne.symm hgAs), ((k8.trans k9).set hD2H _).set hgAH _, t8.trans (t9.trans (TS.updL hgA10 _)), ?_, ?_, ?_, ?_, ?_⟩
          · rw [upd_ne hgAa.symm, upd_ne hlaD]
            exact k9 _ _ hlas' hla8
          · rw [upd_ne hgAl.symm, upd_same, erase_map]
          · rw [upd_same, List.map_append]
            rfl
          · rw [List.length_append, hgp]
            rfl
          · refine .trans (.append_left _ ?_) hperm8
            rw [List.append_assoc]
            refine .append_left _ ?_
            exact (erase_perm hget).symm
        · obtain ⟨u11, gp, rest2, rfl, hS8, k8, t8, hla8, hlf8, hgA8, hgp, hperm8⟩ := h
          have hgnd : gp.Nodup := by
            have z := hperm8.nodup_iff.mpr (asc_nodup hasc')
            exact (List.nodup_append.mp (List.nodup_append.mp z).2.1).1
          have htw8 := htw.mono t8
          have hwl : ws.length ≤ 100 := by
            rw [htw.len, List.length_map]
            have z := congrArg List.length hgsz
            rw [List.length_map, List.length_take] at z
            omega
          trivial
          refine ⟨gA, gp, rfl, .of hgA8, fun g' p1 hp1 hs1 hpn1 => ?_⟩
          refine ⟨p1, _, rfl, .inl ⟨.of upd_same, fun t1 ht1 => ?_⟩⟩
          refine ⟨(by show 1 ≤ sizeLine; decide), fun t2 ht2 => ?_⟩
          have f1 := L2.Same.of_new hpn1 (.lst (g'.map V.int))
          have f2 := f1.put ht1 (.tup (g'.map V.int))
          have f3 := f2.put ht2 (.tup [.ref t1])
          have ht1' := (L2.Same.of_new ht2 (.tup [.ref t1])) _ _ (upd_same (H := upd H8 p1 (.lst (g'.map V.int))) (a := t1) (o := .tup (g'.map V.int)))
          have htw3 := htw8.mono f3.ts
          have hg'asc : g'.Pairwise (· < ·) := le_lt hs1 (hp1.nodup_iff.mpr hgnd)
          have hnew : Tps (upd (upd (upd H8 p1 (.lst (g'.map V.int))) t1 (.tup (g'.map V.int))) t2 (.tup [.ref t1])) (ws ++ [.ref t1]) ((gs ++ [g']).map dI) := by
            rw [List.map_append]
            exact htw3.append (.one (Tp.dI ht1'))
          have hperm' : ((gs ++ [g']).flatten ++ rest2).Perm al' := by
            refine .trans ?_ hperm8
            rw [List.flatten_append, List.flatten_cons, List.flatten_nil, List.append_nil, List.append_assoc]
            exact .append_left _ (.append_right _ hp1)
          have hasc'' : ∀ g ∈ gs ++ [g'], g.Pairwise (· < ·) := fun g hg => by
            rcases List.mem_append.mp hg with z | z
            · exact hgasc g z
            · rw [List.mem_singleton.mp z]
              exact hg'asc
          have hsz' : (gs ++ [g']).map (fun g => (g.length : Int)) = p.take (j + 1) := by
            rw [take_snoc hsz, List.map_append, hgsz]
            have z : (g'.length : Int) = size := by rw [hp1.length_eq, hgp]; omega
            rw [List.map_cons, List.map_nil, z]
          refine ⟨ra, t2, ws, [.ref t1], rfl, rfl, .of (f3 _ _ (t8.t _ _ hra7)), .of upd_same, small_ (by rw [List.length_singleton]; omega), fun z => ?_, fun _ z => (by cases z), fun _ _ np hnp => ?_⟩
          · subst z
            exact ⟨t2, _, _, _, gs ++ [g'], rest2, [.ref t1], rfl, hS8.same f3, k8.trans f3.kp, hfa7.mono (t8.trans f3.ts), f3 _ _ hla8, f3 _ _ hlf8, upd_same, hnew, hperm', hasc'', hsz'⟩
          · have f4 := f3.put hnp (.tup (ws ++ [.ref t1]))
            exact ⟨np, _, _, _, gs ++ [g'], rest2, ws ++ [.ref t1], rfl, hS8.same f4, k8.trans f4.kp, hfa7.mono (t8.trans f4.ts), f4 _ _ hla8, f4 _ _ hlf8, upd_same, hnew.mono (L2.Same.of_new hnp _).ts, hperm', hasc'', hsz'⟩
      · obtain ⟨ra, u9, u10, u11, gs, rest, ws, rfl, hS7, k7, hfa7, hla7, hlf7, hra7, htw, hperm, hgasc, hgsz⟩ := h
        rw [List.length_map, List.take_length] at hgsz
        obtain ⟨fx, hfx, tfx⟩ := hfa7.tup_ref
        have hwg : ws.length = gs.length := by rw [htw.len, List.length_map]
        have hgl : gs.length ≤ 100 := by rw [← List.length_map (as := gs) (fun g => (g.length : Int)), hgsz]; exact hpl
        have hzip1 : (ws.zip gs).map (·.1) = ws := List.map_fst_zip (by omega)
        have hzip2 : (ws.zip gs).map (·.2) = gs := List.map_snd_zip (by omega)
        have h2g : ∀ g ∈ gs, 2 ≤ g.length := fun g hg => by
          have z : (g.length : Int) ∈ gs.map (fun g => (g.length : Int)) := List.mem_map_of_mem (f := fun g : List Int => (g.length : Int)) hg
          rw [hgsz] at z
          have := hpo.two _ z
          omega
        have hpair : ∀ pr ∈ ws.zip gs, Tp H7 pr.1 (dI pr.2) ∧ pr.2 ∈ gs := fun pr hpr => by
          obtain ⟨jj, hjj⟩ := List.mem_iff_getElem?.mp hpr
          have h1 : ws[jj]? = some pr.1 := by
            have z := congrArg (fun l => l[jj]?) hzip1
            simp only [List.getElem?_map, hjj] at z
            exact z.symm
          have h2 : gs[jj]? = some pr.2 := by
            have z := congrArg (fun l => l[jj]?) hzip2
            simp only [List.getElem?_map, hjj] at z
            exact z.symm
          exact ⟨htw.all jj _ _ h1 (by rw [List.getElem?_map, h2]; rfl), List.mem_of_getElem? h2⟩
        trivial
        refine ⟨ra, ws.zip gs, rfl, by rw [hzip1]; exact .of hra7, fun pr hpr => ⟨(hpair pr hpr).1.dp, fun z => by have := h2g _ (hpair pr hpr).2; rw [z] at this; simp at this⟩, fun S hSn => ?_⟩
        have hzp := List.mergeSort_perm (ws.zip gs) (fun x y => leG x.2 y.2)
        have hzs : ((ws.zip gs).mergeSort (fun x y => leG x.2 y.2)).Pairwise fun x y => leG x.2 y.2 = true := List.pairwise_mergeSort (le := fun x y : V × List Int => leG x.2 y.2) (fun a b c h1 h2 => leG_trans a.2 b.2 c.2 h1 h2) (fun a b => leG_total a.2 b.2) (ws.zip gs)
        generalize hzz : (ws.zip gs).mergeSort (fun x y => leG x.2 y.2) = zz at *
        obtain ⟨gs', hgs'⟩ : ∃ gs', gs' = zz.map (·.2) := ⟨_, rfl⟩
        have hgp : gs'.Perm gs := by
          have z := hzp.map (·.2)
          rw [hzip2] at z
          rw [hgs']
          exact z
        have R : RowOk (fun x => aliveAfter born 0 (fun _ => False) rows x ∨ NB born (0 + rows.length) x) p gs' := row_of hgp (by rw [hgs', List.pairwise_map]; exact hzs) hmem' (asc_nodup hasc') hperm hgasc h2g hgsz
        have htz : Tps H7 (zz.map (·.1)) (gs'.map dI) := by
          rw [hgs', List.map_map]
          exact tps_pairs fun pr hpr => (hpair pr (hzp.mem_iff.mp hpr)).1
        have hfl7 : gs'.flatten.length ≤ 24 := by
          have z := hperm.length_eq
          rw [List.length_append] at z
          rw [hgp.flatten.length_eq]
          omega
        refine ⟨S, _, rfl, .inl ⟨.of upd_same, fun t1 ht1 => ?_⟩⟩
        refine ⟨(by show 1 ≤ sizeLine; decide), fun t2 ht2 => ?_⟩
        have f1 := L2.Same.of_new hSn (.lst (zz.map (·.1)))
        have f2 := f1.put ht1 (.tup (zz.map (·.1)))
        have f3 := f2.put ht2 (.tup [.ref t1])
        have ht1' := (L2.Same.of_new ht2 (.tup [.ref t1])) _ _ (upd_same (H := upd H7 S (.lst (zz.map (·.1)))) (a := t1) (o := .tup (zz.map (·.1))))
        have ht1D : Tp (upd (upd (upd H7 S (.lst (zz.map (·.1)))) t1 (.tup (zz.map (·.1)))) t2 (.tup [.ref t1])) (.ref t1) (rowD gs') := Tps.mk' ht1' (htz.mono f3.ts)
        have hfxl : fx.length = i := by rw [tfx.len, List.length_map, hrl]
        have tnew : Tps (upd (upd (upd H7 S (.lst (zz.map (·.1)))) t1 (.tup (zz.map (·.1)))) t2 (.tup [.ref t1])) (fx ++ [.ref t1]) ((rows ++ [gs']).map rowD) := by
          rw [List.map_append]
          exact (tfx.mono f3.ts).append (.one ht1D)
        refine ⟨fa, t2, fx, [.ref t1], rfl, rfl, .of (f3 _ _ hfx), .of upd_same, small_ (by rw [List.length_singleton]; omega), fun z => ?_, fun _ z => (by cases z), fun _ _ np hnp => ?_⟩
        · subst z
          have eid := L2.Same.refl (upd (upd (upd H7 S (.lst (zz.map (·.1)))) t1 (.tup (zz.map (·.1)))) t2 (.tup [.ref t1]))
          have hx' := (show ([V.ref t1] : List V)[i]? = some (.ref t1) by rw [← hfxl]; rfl)
          trivial
          refine ⟨t2, [.ref t1], _, _, rfl, rfl, .of upd_same, by rw [Int.zero_add]; exact atI_nat hx', ?_⟩
          refine ⟨la', t1, al', gs', rfl, eid _ _ (f3 _ _ hla7), Tp.mono eid.ts ht1D, by omega, fun g hg => (R.grp g hg).2.1, by omega, fun l2 H9 e9 hl2n hl2 => ?_⟩
          have kk := k7.trans (f3.trans (eid.trans e9)).kp
          refine ⟨t2, l2, _, _, _, _, _, _, rows ++ [gs'], _, rfl, hS7.same (f3.trans (eid.trans e9)), kk, Tp.mono e9.ts (Tps.mk' upd_same tnew), by rw [List.length_append, hrl]; rfl, ?_, hl2, ?_, hasc'.sublist List.filter_sublist, fun x => ?_, ?_, fun x hx => ?_⟩
          · rw [take_snoc hpd]
            exact hTO.snoc R
          · exact (hS7.same (f3.trans eid)).ne' hl2n
          · rw [List.mem_filter, hmem', aliveAfter_snoc, decide_eq_true_iff]
          · rw [after_len (asc_nodup hasc') hmem' R, hlen']
            have z : nowAt born days (i + 1) = nowAt born days i + (born.count (i : Int) : Nat) - (days.getD i []).sum + (days.getD i []).length := rfl
            rw [z, List.getD_eq_getElem?_getD, hpd]
            rfl
          · have hx2 := (List.mem_filter.mp hx).1
            rcases (hmem' x).mp hx2 with z | z
            · obtain ⟨e, he, hb⟩ := hborn x ((hmem x).mpr z)
              exact ⟨e, by omega, hb⟩
            · rw [hrl, Nat.zero_add] at z
              exact ⟨i, by omega, z⟩
        · have enp := L2.Same.of_new hnp (.tup (fx ++ [.ref t1]))
          have hx' := (show (fx ++ [V.ref t1])[i]? = some (.ref t1) by rw [← hfxl, List.getElem?_append_right (Nat.le_refl _), Nat.sub_self]; rfl)
          trivial
          refine ⟨np, _, _, _, rfl, rfl, .of upd_same, by rw [Int.zero_add]; exact atI_nat hx', ?_⟩
          refine ⟨la', t1, al', gs', rfl, enp _ _ (f3 _ _ hla7), Tp.mono enp.ts ht1D, by omega, fun g hg => (R.grp g hg).2.1, by omega, fun l2 H9 e9 hl2n hl2 => ?_⟩
          have kk := k7.trans (f3.trans (enp.trans e9)).kp
          refine ⟨np, l2, _, _, _, _, _, _, rows ++ [gs'], _, rfl, hS7.same (f3.trans (enp.trans e9)), kk, Tp.mono e9.ts (Tps.mk' upd_same (tnew.mono enp.ts)), by rw [List.length_append, hrl]; rfl, ?_, hl2, ?_, hasc'.sublist List.filter_sublist, fun x => ?_, ?_, fun x hx => ?_⟩
          · rw [take_snoc hpd]
            exact hTO.snoc R
          · exact (hS7.same (f3.trans enp)).ne' hl2n
          · rw [List.mem_filter, hmem', aliveAfter_snoc, decide_eq_true_iff]
          · rw [after_len (asc_nodup hasc') hmem' R, hlen']
            have z : nowAt born days (i + 1) = nowAt born days i + (born.count (i : Int) : Nat) - (days.getD i []).sum + (days.getD i []).length := rfl
            rw [z, List.getD_eq_getElem?_getD, hpd]
            rfl
          · have hx2 := (List.mem_filter.mp hx).1
            rcases (hmem' x).mp hx2 with z | z
            · obtain ⟨e, he, hb⟩ := hborn x ((hmem x).mpr z)
              exact ⟨e, by omega, hb⟩
            · rw [hrl, Nat.zero_add] at z
              exact ⟨i, by omega, z⟩
  · obtain ⟨fa, la, u6, u7, u8, u9, u10, u11, rows, al, rfl, hS1, k1, hfa, hrl, hTO, hla, hlas, hasc, hmem, hnow, hborn⟩ := h
    trivial
    rw [List.take_length] at hTO
    exact q fa rows _ hS1 k1 hfa hTO
end
end G93

set_option Elab.async false
set_option linter.all false
set_option maxRecDepth 100000
set_option maxHeartbeats 4000000
/-! plain laws: a calendar that grows -/
namespace G93
open PySem
theorem nowAt_cnt {b1 b2 : List Int} {days : List (List Int)} : ∀ {d : Nat}, (∀ e : Nat, e < d → b1.count (e : Int) = b2.count (e : Int)) → nowAt b1 days d = nowAt b2 days d
  | 0, _ => rfl
  | d + 1, h => by
    have e1 : nowAt b1 days (d + 1) = nowAt b1 days d + (b1.count (d : Int) : Nat) - (days.getD d []).sum + (days.getD d []).length := rfl
    have e2 : nowAt b2 days (d + 1) = nowAt b2 days d + (b2.count (d : Int) : Nat) - (days.getD d []).sum + (days.getD d []).length := rfl
    rw [e1, e2, nowAt_cnt fun e he => h e (by omega), h d (by omega)]
theorem nowAt_app {b : List Int} {days : List (List Int)} {p : List Int} : ∀ {d : Nat}, d ≤ days.length → nowAt b (days ++ [p]) d = nowAt b days d
  | 0, _ => rfl
  | d + 1, h => by
    have e1 : nowAt b (days ++ [p]) (d + 1) = nowAt b (days ++ [p]) d + (b.count (d : Int) : Nat) - ((days ++ [p]).getD d []).sum + ((days ++ [p]).getD d []).length := rfl
    have e2 : nowAt b days (d + 1) = nowAt b days d + (b.count (d : Int) : Nat) - (days.getD d []).sum + (days.getD d []).length := rfl
    have e3 : (days ++ [p]).getD d [] = days.getD d [] := by rw [List.getD_eq_getElem?_getD, List.getD_eq_getElem?_getD, List.getElem?_append_left (by omega)]
    rw [e1, e2, e3, nowAt_app (d := d) (by omega)]
structure DaysOk (b : List Int) (days : List (List Int)) : Prop where
  pat : ∀ p ∈ days, PatOk p ∧ p.length ≤ 100
  cnt : ∀ d, d < days.length → (days.getD d []).sum ≤ nowAt b days d + (b.count (d : Int) : Nat)
theorem DaysOk.nil (b : List Int) : DaysOk b [] := ⟨fun p h => (by cases h), fun d h => (by simp at h)⟩
/-- who is alive at the end of the days -/
def endAt (b : List Int) (days : List (List Int)) : Int := nowAt b days days.length + (b.count (days.length : Int) : Nat)
theorem DaysOk.births {b c : List Int} {days : List (List Int)} (h : DaysOk b days) (hc : ∀ e : Nat, e < days.length → b.count (e : Int) = c.count (e : Int)) : DaysOk c days :=
  ⟨h.pat, fun d hd => by rw [← nowAt_cnt fun e he => hc e (by omega), ← hc d hd]; exact h.cnt d hd⟩
theorem DaysOk.day {b : List Int} {days : List (List Int)} {p : List Int} (h : DaysOk b days) (hp : PatOk p) (hl : p.length ≤ 100) (hs : p.sum ≤ endAt b days) : DaysOk b (days ++ [p]) := by
  refine ⟨fun q hq => ?_, fun d hd => ?_⟩
  · rcases List.mem_append.mp hq with z | z
    · exact h.pat q z
    · rw [List.mem_singleton.mp z]
      exact ⟨hp, hl⟩
  · rw [List.length_append, List.length_singleton] at hd
    rw [nowAt_app (by omega)]
    by_cases h2 : d < days.length
    · rw [List.getD_eq_getElem?_getD, List.getElem?_append_left h2, ← List.getD_eq_getElem?_getD]
      exact h.cnt d h2
    · have : d = days.length := by omega
      subst this
      rw [List.getD_eq_getElem?_getD, List.getElem?_append_right (Nat.le_refl _), Nat.sub_self]
      exact hs
theorem endAt_day {b : List Int} {days : List (List Int)} {p : List Int} : endAt b (days ++ [p]) = endAt b days - p.sum + p.length + (b.count ((days.length + 1 : Nat) : Int) : Nat) := by
  unfold endAt
  have e0 : (days ++ [p]).length = days.length + 1 := by simp
  rw [e0]
  have e1 : nowAt b (days ++ [p]) (days.length + 1) = nowAt b (days ++ [p]) days.length + (b.count (days.length : Int) : Nat) - ((days ++ [p]).getD days.length []).sum + ((days ++ [p]).getD days.length []).length := rfl
  have e3 : (days ++ [p]).getD days.length [] = p := by rw [List.getD_eq_getElem?_getD, List.getElem?_append_right (Nat.le_refl _), Nat.sub_self]; rfl
  rw [e1, e3, nowAt_app (Nat.le_refl _)]
theorem DaysOk.cal {b : List Int} {days : List (List Int)} (h : DaysOk b days) (h1 : 1 ≤ b.length) (h2 : b.length ≤ 12) (h3 : days.length ≤ 11) (h4 : ∀ x ∈ b, 0 ≤ x ∧ x ≤ days.length) : CalOk b days := ⟨h1, h2, h3, h.pat, h4, h.cnt⟩
theorem count_rep (b : List Int) (k : Nat) (x y : Int) : (b ++ List.replicate k x).count y = b.count y + if x = y then k else 0 := by
  rw [List.count_append, List.count_replicate]
  by_cases h : x = y
  · simp [h]
  · simp [h]
theorem DaysOk.perm {b c : List Int} {days : List (List Int)} (h : DaysOk b days) (p : b.Perm c) : DaysOk c days := h.births fun e _ => p.count_eq _
end G93
namespace G93
open PySem
theorem grow {b : List Int} {days : List (List Int)} (h : DaysOk b days) (k : Nat) : DaysOk (b ++ List.replicate k (days.length : Int)) days ∧ endAt (b ++ List.replicate k (days.length : Int)) days = endAt b days + k := by
  have hc : ∀ e : Nat, e < days.length → b.count (e : Int) = (b ++ List.replicate k (days.length : Int)).count (e : Int) := fun e he => by
    rw [count_rep, if_neg (by omega), Nat.add_zero]
  refine ⟨h.births hc, ?_⟩
  unfold endAt
  rw [← nowAt_cnt hc, count_rep, if_pos rfl]
  omega
theorem sum_ge {p : List Int} (h : ∀ x ∈ p, 2 ≤ x) : (p.length : Int) ≤ p.sum := by
  induction p with
  | nil => exact Int.le_refl _
  | cons x r ih =>
    have := ih fun y hy => h y (List.mem_cons_of_mem _ hy)
    have := h x List.mem_cons_self
    rw [List.sum_cons, List.length_cons]
    omega
theorem no_count {b : List Int} {m : Nat} (h : ∀ x ∈ b, 0 ≤ x ∧ x ≤ m) : b.count ((m + 1 : Nat) : Int) = 0 := List.count_eq_zero.mpr fun z => by
  have := h _ z
  omega
end G93

set_option Elab.async false
set_option linter.all false
set_option maxRecDepth 100000
set_option maxHeartbeats 8000000
/-! drawn calendars -/
namespace G93
open PySem PySem.Spec PyProof.Rows L2
local macro_rules | `(tactic| trivial) => `(tactic| (repeat (first | refine ⟨_, rfl, ?_⟩ | refine ⟨_, _, rfl, rfl, ?_⟩ | refine .inl ⟨_, rfl, ?_⟩ | refine ⟨_, _, rfl, ?_⟩)))
abbrev s_law_pattern : Stmt := top 38
theorem sc_law_pattern : FnScope ["_law_source", "_law_alive", "_law_first", "_law_second"] ["_law_source", "_law_alive"] (defScope s_law_pattern) := ⟨rfl, rfl, rfl, by decide +kernel, rfl, by decide +kernel, by decide +kernel⟩
abbrev s_law_twelve : Stmt := top 48
theorem sc_law_twelve : FnScope ["_law_source", "_law_days", "_law_alive", "_law_turn", "_law_pattern_here"] ["_law_source"] (defScope s_law_twelve) := ⟨rfl, rfl, rfl, by decide +kernel, rfl, by decide +kernel, by decide +kernel⟩
abbrev s_law_made : Stmt := top 40
theorem sc_law_made : FnScope ["_law_calendar"] ["_law_calendar"] (defScope s_law_made) := ⟨rfl, rfl, rfl, by decide +kernel, rfl, by decide +kernel, by decide +kernel⟩
def B12 : List Int := List.replicate 7 0 ++ List.replicate 5 1
theorem B12_mem {x : Int} (h : x ∈ B12) : 0 ≤ x ∧ x ≤ 1 := by
  have : ∀ y ∈ B12, 0 ≤ y ∧ y ≤ 1 := by decide
  exact this x h
def spPatD : Sp := fun vs H Q _ => ∃ (s : Addr) (al : Int), vs = [.ref s, .int al] ∧ Src H s ∧ 2 ≤ al ∧ al ≤ 1000 ∧ ∀ r (p : List Int) H', Src H' s → Kp s H H' → H r = none → H' r = some (.tup (p.map V.int)) → PatOk p → p.length ≤ 2 → p.sum ≤ al → Q (.ref r) H'
/-- a calendar was drawn -/
def CalDrawn (s : Addr) (H : Hp) (Q : VK) : Prop := ∀ cal vb vd born days H', Src H' s → Kp s H H' → Pair H' cal vb vd → CalAt H' vb vd born days → CalOk born days → Q (.ref cal) H'
def spTwelve : Sp := fun vs H Q _ => ∃ (s : Addr), vs = [.ref s] ∧ Src H s ∧ CalDrawn s H Q
def spMadeL (C : Addr) : Sp := fun vs H Q _ => ∃ (cal vb vd : Addr) (born : List Int) (days : List (List Int)), vs = [.ref cal] ∧ Pair H cal vb vd ∧ CalAt H vb vd born days ∧ CalOk born days ∧ ∀ c H', Same H H' → CalIns C H' c vb vd → Q (.ref c) H'
section
variable {P : Program} {w : World} {K : PySem.W.Frag} {mg : Str → Option Value} {base : Heap} {f : Addr} {fd : FuncData}
theorem ok_lmade {C : Addr} (F : Fun K "_law_made" "_law_made" s_law_made f fd) (B : Bi mg) (C_made_calendar : Cal P w K mg base CX0 3 "made_calendar" ["born", "days"] (spMade C)) : FnOk P w K mg base CX0 4 f fd ["_law_calendar"] (spMadeL C) := by
  refine F.ok sc_law_made (fun vs H Q E h => ?_) (fun cdv A outer s H vs Q E hr h => ?_)
  · obtain ⟨_, _, _, _, _, rfl, _⟩ := h
    rfl
  obtain ⟨cal, vb, vd, born, days, rfl, hP, hC, hO, q⟩ := h
  refine ⟨_, (pss_one (ps_ret (pe_callC C_made_calendar (hr.mono (by decide)) (by rfl) pass0 (pa_cons (pe_ix ix_tup (pv 0) pe_int (fun _ _ => rfl)) (pa_cons (pe_ix ix_tup (pv 0) pe_int (fun _ _ => rfl)) pa_nil)))))
   , ?_⟩
  trivial
  refine ⟨cal, _, _, _, rfl, rfl, .of hP, rfl, ?_⟩
  trivial
  refine ⟨cal, _, _, _, rfl, rfl, .of hP, rfl, ?_⟩
  exact ⟨vb, vd, born, days, rfl, hC, hO, q⟩
theorem ok_pattern (F : Fun K "_law_pattern" "_law_pattern" s_law_pattern f fd) (B : Bi mg) (C_law_take : Cal P w K mg base CX0 1 "_law_take" ["_law_source", "_law_top"] spTake) (C_law_one : Cal P w K mg base CX0 2 "_law_one" ["_law_source", "_law_things"] (spOne K)) :
    FnOk P w K mg base CX0 3 f fd ["_law_source", "_law_alive"] spPatD := by
  refine F.ok sc_law_pattern (fun vs H Q E h => ?_) (fun cdv A outer s H vs Q E hr h => ?_)
  · obtain ⟨_, _, rfl, _⟩ := h
    rfl
  obtain ⟨s, al, rfl, hS, h2, h1000, q⟩ := h
  refine ⟨_, (pss_cons (ps_set (i := 2) sc_law_pattern.nd rfl (Or.inl rfl) (pe_op op_add pe_int (pe_callC C_law_take (hr.mono (by decide)) (by rfl) pass0 (pa_cons (pv 0) (pa_cons (pe_callC C_law_one (hr.mono (by decide)) (by rfl) pass0 (pa_cons (pv 0) (pa_cons (pe_lst (pa_cons pe_int (pa_cons pe_int (pa_cons (pe_op op_sub (pv 1) pe_int) pa_nil)))) pa_nil))) pa_nil)))))
      (pss_cons (ps_if (PW.pt (pw_and (pt_cmpR op_gt (pe_op op_sub (pv 1) (pv 2)) pe_int (nomark _)) (pw_and1 (pt_cmpR op_eq (pe_callC C_law_take (hr.mono (by decide)) (by rfl) pass0 (pa_cons (pv 0) (pa_cons pe_int pa_nil))) pe_int (nomark _)))))
        (pss_cons (ps_set (i := 3) sc_law_pattern.nd rfl (Or.inl rfl) (pe_op op_add pe_int (pe_callC C_law_take (hr.mono (by decide)) (by rfl) pass0 (pa_cons (pv 0) (pa_cons (pe_op op_sub (pe_op op_sub (pv 1) (pv 2)) pe_int) pa_nil)))))
        (pss_one (ps_ret (pe_tup (pa_cons (pe_callB (call_max2 rfl) (by rfl) B.max_ (by decide +kernel) (pa_cons (pv 2) (pa_cons (pv 3) pa_nil))) (pa_cons (pe_callB (call_min2 rfl) (by rfl) B.min_ (by decide +kernel) (pa_cons (pv 2) (pa_cons (pv 3) pa_nil))) pa_nil))))))
        pss_nil)
      (pss_one (ps_ret (pe_tup (pa_cons (pv 2) pa_nil))))))
   , ?_⟩
  trivial
  refine ⟨(by show 3 ≤ sizeLine; decide), fun l hl => ?_⟩
  have e0 := L2.Same.of_new hl (.lst [.int 1, .int 1, .int (al - 1)])
  refine ⟨s, l, _, rfl, hS.same e0, hS.ne' hl, upd_same, by show 0 < 3; decide, by show 3 < 1073741824; decide, fun i v H1 hv hS1 k1 => ?_⟩
  obtain ⟨kk, rfl, hk1, hk2⟩ : ∃ kk : Int, v = .int kk ∧ 1 ≤ kk ∧ kk ≤ al - 1 := by
    match i, hv with
    | 0, hv => cases hv; exact ⟨1, rfl, by omega, by omega⟩
    | 1, hv => cases hv; exact ⟨1, rfl, by omega, by omega⟩
    | 2, hv => cases hv; exact ⟨al - 1, rfl, by omega, by omega⟩
    | n + 3, hv => simp at hv
  refine ⟨s, kk, rfl, hS1, by omega, by omega, fun r H2 r0 r1 hS2 k2 => ?_⟩
  have kA := (e0.kp.trans k1).trans k2
  trivial
  have one : ∀ H3, Src H3 s → Kp s H H3 → [V.int (2 + r)].length ≤ sizeLine ∧ ∀ p, H3 p = none → Q (.ref p) (upd H3 p (.tup [.int (2 + r)])) := fun H3 hS3 k3 =>
    ⟨(by show 1 ≤ sizeLine; decide), fun p hp => q p [2 + r] _ (hS3.new hp) (k3.put hp _) (k3.free (hS3.ne' hp) hp) upd_same ⟨by simp, fun x hx => by rw [List.mem_singleton.mp hx]; omega, List.pairwise_singleton _ _⟩ (by simp) (by simp; omega)⟩
  by_cases hb : 1 < al - (2 + r)
  · rw [decide_eq_true hb]
    refine iteT ?_
    trivial
    refine ⟨hS2, by decide, by decide, fun r2 H3 _ _ hS3 k3 => ?_⟩
    trivial
    refine ⟨rfl, _, rfl, ?_⟩
    by_cases hz : r2 = 0
    · rw [decide_eq_true (show V.int r2 = V.int 0 by rw [hz])]
      refine iteT ?_
      trivial
      refine ⟨hS3, by omega, by omega, fun r3 H4 r30 r31 hS4 k4 => ?_⟩
      trivial
      refine ⟨(by show 2 ≤ sizeLine; decide), fun p hp => ?_⟩
      have k5 := (kA.trans k3).trans k4
      refine q p [if (2 + r3) > (2 + r) then 2 + r3 else 2 + r, if (2 + r3) < (2 + r) then 2 + r3 else 2 + r] _ (hS4.new hp) (k5.put hp _) (k5.free (hS4.ne' hp) hp) upd_same ⟨by simp, fun x hx => ?_, ?_⟩ (by simp) ?_
      · simp only [List.mem_cons, List.not_mem_nil, or_false] at hx
        rcases hx with z | z <;> (rw [z]; split <;> omega)
      · simp only [List.pairwise_cons, List.mem_singleton, List.not_mem_nil, forall_eq]
        refine ⟨?_, fun _ h => h.elim, .nil⟩
        split <;> split <;> omega
      · simp only [List.sum_cons, List.sum_nil]
        split <;> split <;> omega
    · rw [decide_eq_false (show ¬ V.int r2 = V.int 0 from fun z => hz (V.int.inj z))]
      refine iteF ?_
      trivial
      exact one _ hS3 (kA.trans k3)
  · rw [decide_eq_false hb]
    refine iteF ?_
    trivial
    exact one _ hS2 kA
theorem ok_twelve (F : Fun K "_law_twelve" "_law_twelve" s_law_twelve f fd) (B : Bi mg) (C_law_take : Cal P w K mg base CX0 1 "_law_take" ["_law_source", "_law_top"] spTake) : FnOk P w K mg base CX0 2 f fd ["_law_source"] spTwelve := by
  refine F.ok sc_law_twelve (fun vs H Q E h => ?_) (fun cdv A outer s H vs Q E hr h => ?_)
  · obtain ⟨_, rfl, _⟩ := h
    rfl
  obtain ⟨s, rfl, hS, q⟩ := h
  refine ⟨_, (pss_cons (ps_asg (pe_tup (pa_cons (pe_tup pa_nil) (pa_cons pe_int pa_nil))) (pg_tup rfl (pgs_cons (pg_name (i := 1) sc_law_twelve.nd rfl (Or.inl rfl)) (pgs_cons (pg_name (i := 2) sc_law_twelve.nd rfl (Or.inl rfl)) pgs_nil))))
      (pss_cons (ps_for PassesOwn.never rfl (pi_range1 (by rfl) B.range_ (pa_cons pe_int pa_nil)) (pg_name (i := 3) sc_law_twelve.nd rfl (Or.inl rfl))
        (pss_one (ps_if (pt_cmpR op_gt (pv 2) pe_int (nomark _))
          (pss_cons (ps_set (i := 4) sc_law_twelve.nd rfl (Or.inl rfl) (pe_tup (pa_cons (pe_op op_add pe_int (pe_callC C_law_take (hr.mono (by decide)) (by rfl) pass0 (pa_cons (pv 0) (pa_cons (pe_callB (call_min2 rfl) (by rfl) B.min_ (by decide +kernel) (pa_cons pe_int (pa_cons (pe_op op_sub (pv 2) pe_int) pa_nil))) pa_nil)))) pa_nil)))
          (pss_one (ps_par (i := 1) (j := 2) rfl sc_law_twelve.nd rfl rfl (by decide) rfl rfl (pa_cons (pe_op op_catA (pv 1) (pe_tup (pa_cons (pv 4) pa_nil))) (pa_cons (pe_op op_add (pe_op op_add (pe_op op_sub (pv 2) (pe_ix ix_tup (pv 4) pe_int (fun _ _ => rfl))) pe_int) (pe_op op_mul pe_int (pe_callTy call_int1 (by rfl) B.int_ (by decide +kernel) (pa_cons (pe_cmpR op_eq (pv 3) pe_int (nomark _)) pa_nil)))) pa_nil)) (by rfl))))
          pss_nil)))
      (pss_one (ps_ret (pe_tup (pa_cons (pe_op op_catF (pe_op op_repT (pe_tup (pa_cons pe_int pa_nil)) pe_int) (pe_op op_repT (pe_tup (pa_cons pe_int pa_nil)) pe_int)) (pa_cons (pv 1) pa_nil)))))))
   , ?_⟩
  refine ⟨(by show 0 ≤ sizeLine; decide), fun d0 hd0 => ?_⟩
  trivial
  refine ⟨(by show 2 ≤ sizeLine; decide), fun pz hpz => ?_⟩
  have e0 := (L2.Same.of_new hd0 (.tup [])).put hpz (.tup [.ref d0, .int 7])
  have hd0' := (L2.Same.of_new hpz (.tup [.ref d0, .int 7])) _ _ (upd_same (H := H) (a := d0) (o := .tup []))
  refine ⟨pz, _, rfl, .of upd_same, rfl, ?_⟩
  trivial
  refine ⟨by decide, by decide, ?_⟩
  refine for_range (n := 9) (fun i σ H1 => ∃ (da : Addr) (alv : Int) (u3 u4 : Option V) (days : List (List Int)), σ = [some (.ref s), some (.ref da), some (.int alv), u3, u4] ∧ Src H1 s ∧ Kp s H H1 ∧ Tp H1 (.ref da) (.tuple (days.map dI)) ∧ DaysOk B12 days ∧ alv = endAt B12 days ∧ days.length ≤ i ∧ (days = [] ↔ i = 0))
    ⟨d0, 7, _, _, [], rfl, hS.same e0, e0.kp, Tps.mk' hd0' .nil, .nil _, rfl, Nat.zero_le _, by simp⟩ (fun i σ H1 hi h => ?_) (fun σ H1 h => ?_)
  · obtain ⟨da, alv, u3, u4, days, rfl, hS1, k1, hda, hDO, halv, hdl, hz⟩ := h
    obtain ⟨dx, hdx, tdx⟩ := hda.tup_ref
    have hdxl : dx.length = days.length := by rw [tdx.len, List.length_map]
    trivial
    by_cases ha : 1 < alv
    · rw [decide_eq_true ha]
      refine iteT ?_
      trivial
      refine ⟨hS1, by split <;> omega, by split <;> omega, fun r H2 r0 r1 hS2 k2 => ?_⟩
      have hr3 : r + 2 ≤ 3 ∧ 2 + r ≤ alv := by
        split at r1 <;> omega
      trivial
      refine ⟨(by show 1 ≤ sizeLine; decide), fun t0 ht0 => ?_⟩
      trivial
      have kA := k1.trans k2
      have e3 := L2.Same.of_new ht0 (.tup [.int (2 + r)])
      refine ⟨(by show 1 ≤ sizeLine; decide), fun t1 ht1 => ?_⟩
      have e4 := e3.put ht1 (.tup [.ref t0])
      have ht0' := (L2.Same.of_new ht1 (.tup [.ref t0])) _ _ (upd_same (H := H2) (a := t0) (o := .tup [.int (2 + r)]))
      have tsA := (hS1.ts k2).trans e4.ts
      have hdx4 := tsA.t _ _ hdx
      have hpo : PatOk [2 + r] := ⟨by simp, fun x hx => by rw [List.mem_singleton.mp hx]; omega, List.pairwise_singleton _ _⟩
      have hDO' := hDO.day hpo (by simp) (by rw [← halv]; simp; omega)
      have hnew : Tps (upd (upd H2 t0 (.tup [.int (2 + r)])) t1 (.tup [.ref t0])) (dx ++ [.ref t0]) ((days ++ [[2 + r]]).map dI) := by
        rw [List.map_append]
        exact (tdx.mono tsA).append (.one (Tp.dI ht0'))
      have hend : ∀ b : Bool, (b = true ↔ i = 0) → alv - (2 + r) + 1 + 5 * (if b = true then 1 else 0) = endAt B12 (days ++ [[2 + r]]) := fun b hb => by
        rw [endAt_day, ← halv]
        have z1 : ([2 + r] : List Int).sum = 2 + r := by simp
        rw [z1]
        have z2 : (([2 + r] : List Int).length : Int) = 1 := rfl
        rw [z2]
        have hcount : ((B12.count ((days.length + 1 : Nat) : Int) : Nat) : Int) = 5 * (if b = true then 1 else 0) := by
          by_cases h0 : i = 0
          · rw [if_pos (hb.mpr h0), hz.mpr h0]
            decide
          · rw [if_neg (fun z => h0 (hb.mp z))]
            have hne : days ≠ [] := fun z => h0 (hz.mp z)
            have hl1 := List.length_pos_iff.mpr hne
            have z3 : B12.count ((days.length + 1 : Nat) : Int) = 0 := List.count_eq_zero.mpr fun z => by
              have z4 := B12_mem z
              omega
            rw [z3]
            rfl
        rw [hcount]
      refine ⟨da, t1, dx, [.ref t0], rfl, rfl, .of hdx4, .of upd_same, small_ (by rw [List.length_singleton]; omega), fun z => ?_, fun _ z => (by cases z), fun _ _ np hnp => ?_⟩
      · subst z
        trivial
        refine ⟨t0, _, _, _, rfl, rfl, .of ht0', rfl, ?_⟩
        trivial
        refine ⟨rfl, ?_⟩
        refine .inr ⟨_, rfl, ?_⟩
        trivial
        refine ⟨.inl (by decide), ?_⟩
        trivial
        refine ⟨t1, _, _, _, days ++ [[2 + r]], rfl, hS2.same e4, kA.trans e4.kp, Tps.mk' upd_same hnew, hDO', hend (decide (V.int (0 + (i : Int)) = V.int 0)) ⟨fun z => ?_, fun z => ?_⟩, by simp; omega, ⟨fun z => by simp at z, fun z => by omega⟩⟩
        · have := V.int.inj (of_decide_eq_true z)
          omega
        · rw [z]
          rfl
      · have enp := L2.Same.of_new hnp (.tup (dx ++ [.ref t0]))
        trivial
        refine ⟨t0, _, _, _, rfl, rfl, .of (enp _ _ ht0'), rfl, ?_⟩
        trivial
        refine ⟨rfl, ?_⟩
        refine .inr ⟨_, rfl, ?_⟩
        trivial
        refine ⟨.inl (by decide), ?_⟩
        trivial
        refine ⟨np, _, _, _, days ++ [[2 + r]], rfl, hS2.same (e4.trans enp), kA.trans (e4.trans enp).kp, Tps.mk' upd_same (hnew.mono enp.ts), hDO', hend (decide (V.int (0 + (i : Int)) = V.int 0)) ⟨fun z => ?_, fun z => ?_⟩, by simp; omega, ⟨fun z => by simp at z, fun z => by omega⟩⟩
        · have := V.int.inj (of_decide_eq_true z)
          omega
        · rw [z]
          rfl
    · rw [decide_eq_false ha]
      refine iteF ?_
      refine ⟨da, alv, _, u4, days, rfl, hS1, k1, hda, hDO, halv, by omega, ⟨fun z => ?_, fun z => by omega⟩⟩
      have h0 := hz.mp z
      subst z
      rw [halv] at ha
      exact absurd (show (1 : Int) < endAt B12 [] by decide) ha
  · obtain ⟨da, alv, u3, u4, days, rfl, hS1, k1, hda, hDO, halv, hdl, hz⟩ := h
    refine ⟨(by show 1 ≤ sizeLine; decide), fun z0 hz0 => ?_⟩
    trivial
    refine ⟨z0, 7, [.int 0], rfl, rfl, .of upd_same, by simp, by decide, by decide, by decide, fun z1 hz1 => ?_⟩
    have g1 := (L2.Same.of_new hz0 (.tup [.int 0])).put hz1 (.tup (List.replicate (7 : Int).toNat [V.int 0]).flatten)
    have hz1' := upd_same (H := upd H1 z0 (.tup [.int 0])) (a := z1) (o := .tup (List.replicate (7 : Int).toNat [V.int 0]).flatten)
    refine ⟨(by show 1 ≤ sizeLine; decide), fun z2 hz2 => ?_⟩
    trivial
    have g2 := g1.put hz2 (.tup [.int 1])
    refine ⟨z2, 5, [.int 1], rfl, rfl, .of upd_same, by simp, by decide, by decide, by decide, fun z3 hz3 => ?_⟩
    have g3 := g2.put hz3 (.tup (List.replicate (5 : Int).toNat [V.int 1]).flatten)
    have hz1'' := ((L2.Same.of_new hz2 (.tup [.int 1])).put hz3 (.tup (List.replicate (5 : Int).toNat [V.int 1]).flatten)) _ _ hz1'
    refine ⟨z1, z3, _, _, rfl, rfl, .of hz1'', .of upd_same, by decide, by decide, by decide, fun vb H5 hvb e5 hf => ?_⟩
    have g5 := g3.trans e5
    trivial
    refine ⟨(by show 2 ≤ sizeLine; decide), fun cal hcal => ?_⟩
    have g6 := g5.put hcal (.tup [.ref vb, .ref da])
    have hne : days ≠ [] := fun z => by have := hz.mp z; omega
    have hl1 := List.length_pos_iff.mpr hne
    have hfb : TupF H5 vb (B12.map V.int) := hf
    have gc := L2.Same.of_new hcal (.tup [.ref vb, .ref da])
    refine q cal vb da B12 days _ (hS1.same g6) (k1.trans g6.kp) upd_same ⟨let ⟨o, h, h2⟩ := hfb; ⟨o, gc _ _ h, h2⟩, hda.mono g6.ts⟩ (hDO.cal (by decide) (by decide) (by omega) fun x hx => ?_)
    have := B12_mem hx
    omega
end
end G93

set_option Elab.async false
set_option linter.all false
set_option maxRecDepth 100000
set_option maxHeartbeats 8000000
/-! a drawn calendar -/
namespace G93
open PySem PySem.Spec PyProof.Rows L2
local macro_rules | `(tactic| trivial) => `(tactic| (repeat (first | refine ⟨_, rfl, ?_⟩ | refine ⟨_, _, rfl, rfl, ?_⟩ | refine .inl ⟨_, rfl, ?_⟩ | refine ⟨_, _, rfl, ?_⟩)))
abbrev s_law_drawn : Stmt := top 39
theorem sc_law_drawn : FnScope ["_law_source", "_law_most", "_law_n", "_law_left", "_law_alive", "_law_births", "_law_days", "_law_late", "_law_turn", "_law_more", "_law_pattern_here", "_law_born"] ["_law_source", "_law_most"] (defScope s_law_drawn) := ⟨rfl, rfl, rfl, by decide +kernel, rfl, by decide +kernel, by decide +kernel⟩
def spDrawn : Sp := fun vs H Q _ => ∃ (s : Addr), vs = [.ref s, .int 6] ∧ Src H s ∧ CalDrawn s H Q
theorem rep_flat {α : Type} (k : Nat) (x : α) : (List.replicate k [x]).flatten = List.replicate k x := by
  induction k with
  | zero => rfl
  | succ k ih => rw [List.replicate_succ, List.flatten_cons, ih]; rfl
section
variable {P : Program} {w : World} {K : PySem.W.Frag} {mg : Str → Option Value} {base : Heap} {f : Addr} {fd : FuncData}
theorem ok_drawn (F : Fun K "_law_drawn" "_law_drawn" s_law_drawn f fd) (B : Bi mg) (C_law_take : Cal P w K mg base CX0 1 "_law_take" ["_law_source", "_law_top"] spTake) (C_law_one : Cal P w K mg base CX0 2 "_law_one" ["_law_source", "_law_things"] (spOne K))
    (C_law_pattern : Cal P w K mg base CX0 3 "_law_pattern" ["_law_source", "_law_alive"] spPatD) : FnOk P w K mg base CX0 4 f fd ["_law_source", "_law_most"] spDrawn := by
  refine F.ok sc_law_drawn (fun vs H Q E h => ?_) (fun cdv A outer s H vs Q E hr h => ?_)
  · obtain ⟨_, rfl, _⟩ := h
    rfl
  obtain ⟨s, rfl, hS, q⟩ := h
  refine ⟨_, (pss_cons (ps_set (i := 2) sc_law_drawn.nd rfl (Or.inl rfl) (pe_callB (call_min2 rfl) (by rfl) B.min_ (by decide +kernel) (pa_cons (pv 1) (pa_cons (pe_callC C_law_one (hr.mono (by decide)) (by rfl) pass0 (pa_cons (pv 0) (pa_cons (pe_lst (pa_cons pe_int (pa_cons pe_int (pa_cons pe_int (pa_cons pe_int (pa_cons pe_int (pa_cons pe_int (pa_cons pe_int (pa_cons pe_int (pa_cons pe_int (pa_cons pe_int pa_nil))))))))))) pa_nil))) pa_nil))))
      (pss_cons (ps_asg (pe_tup (pa_cons (pv 2) (pa_cons pe_int (pa_cons (pe_lst pa_nil) (pa_cons (pe_lst pa_nil) pa_nil))))) (pg_tup rfl (pgs_cons (pg_name (i := 3) sc_law_drawn.nd rfl (Or.inl rfl)) (pgs_cons (pg_name (i := 4) sc_law_drawn.nd rfl (Or.inl rfl)) (pgs_cons (pg_name (i := 5) sc_law_drawn.nd rfl (Or.inl rfl)) (pgs_cons (pg_name (i := 6) sc_law_drawn.nd rfl (Or.inl rfl)) pgs_nil))))))
      (pss_cons (ps_set (i := 7) sc_law_drawn.nd rfl (Or.inl rfl) (pe_cmpR op_gt (pe_callC C_law_take (hr.mono (by decide)) (by rfl) pass0 (pa_cons (pv 0) (pa_cons pe_int pa_nil))) pe_int (nomark _)))
      (pss_cons (ps_for PassesOwn.never rfl (pi_range1 (by rfl) B.range_ (pa_cons (pv 2) pa_nil)) (pg_name (i := 8) sc_law_drawn.nd rfl (Or.inl rfl))
        (pss_cons (ps_set (i := 9) sc_law_drawn.nd rfl (Or.inl rfl) (pe_callB (call_min2 rfl) (by rfl) B.min_ (by decide +kernel) (pa_cons (pv 3) (pa_cons (pe_ifExp (pt_val (pv 7)) (pe_callC C_law_one (hr.mono (by decide)) (by rfl) pass0 (pa_cons (pv 0) (pa_cons (pe_lst (pa_cons (pv 3) (pa_cons pe_int (pa_cons pe_int (pa_cons pe_int pa_nil))))) pa_nil))) (pv 3)) pa_nil))))
        (pss_cons (ps_if (pt_cmpR op_eq (pv 8) pe_int (nomark _))
          (pss_one (ps_set (i := 9) sc_law_drawn.nd rfl (Or.inl rfl) (pe_callB (call_max2 rfl) (by rfl) B.max_ (by decide +kernel) (pa_cons (pv 9) (pa_cons (pe_callB (call_min2 rfl) (by rfl) B.min_ (by decide +kernel) (pa_cons (pv 3) (pa_cons pe_int pa_nil))) pa_nil)))))
          pss_nil)
        (pss_cons (ps_par3 (i := 5) (j := 3) (l := 4) rfl sc_law_drawn.nd rfl rfl rfl (by decide) (by decide) (by decide) rfl rfl rfl (pa_cons (pe_op op_cat (pv 5) (pe_op op_rep (pe_lst (pa_cons (pe_callB call_len_seq (by rfl) B.len_ (by decide +kernel) (pa_cons (pv 6) pa_nil)) pa_nil)) (pv 9))) (pa_cons (pe_op op_sub (pv 3) (pv 9)) (pa_cons (pe_op op_add (pv 4) (pv 9)) pa_nil))) (by rfl))
        (pss_one (ps_if (PW.pt (pw_and (pt_cmpR op_gt (pv 4) pe_int (nomark _)) (pw_and1 (PW.pt (pw_or (pt_cmpR op_gt (pe_callC C_law_take (hr.mono (by decide)) (by rfl) pass0 (pa_cons (pv 0) (pa_cons pe_int pa_nil))) pe_int (nomark _)) (pw_or1 (PW.pt (pw_and (pt_cmpR op_gt (pv 3) pe_int (nomark _)) (pw_and1 (pt_cmpR op_lt (pv 8) pe_int (nomark _)))))))))))
          (pss_cons (ps_set (i := 10) sc_law_drawn.nd rfl (Or.inl rfl) (pe_callC C_law_pattern (hr.mono (by decide)) (by rfl) pass0 (pa_cons (pv 0) (pa_cons (pv 4) pa_nil))))
          (pss_cons (ps_expr (pe_bm PySem.F.plainAttrs_list PySem.F.slot_list_append PySem.F.type_list_append mt_append (pv 6) (pa_cons (pv 10) pa_nil)))
          (pss_one (ps_set (i := 4) sc_law_drawn.nd rfl (Or.inl rfl) (pe_op op_add (pe_op op_sub (pv 4) (pe_callB (cr_sumS rfl) (by rfl) B.sum_ (by decide +kernel) (pa_cons (pv 10) pa_nil))) (pe_callB call_len_seq (by rfl) B.len_ (by decide +kernel) (pa_cons (pv 10) pa_nil)))))))
          pss_nil))))))
      (pss_cons (ps_set (i := 5) sc_law_drawn.nd rfl (Or.inl rfl) (pe_op op_cat (pv 5) (pe_op op_rep (pe_lst (pa_cons (pe_callB call_len_seq (by rfl) B.len_ (by decide +kernel) (pa_cons (pv 6) pa_nil)) pa_nil)) (pv 3))))
      (pss_cons (ps_set (i := 11) sc_law_drawn.nd rfl (Or.inl rfl) (pe_lst pa_nil))
      (pss_cons (ps_for PassesOwn.never rfl (pi_range1 (by rfl) B.range_ (pa_cons (pv 2) pa_nil)) (pg_name (i := 8) sc_law_drawn.nd rfl (Or.inl rfl))
        (pss_one (ps_expr (pe_bm PySem.F.plainAttrs_list PySem.F.slot_list_append PySem.F.type_list_append mt_append (pv 11) (pa_cons (pe_bm PySem.F.plainAttrs_list PySem.F.slot_list_pop PySem.F.type_list_pop mt_popAt (pv 5) (pa_cons (pe_callC C_law_take (hr.mono (by decide)) (by rfl) pass0 (pa_cons (pv 0) (pa_cons (pe_callB call_len_seq (by rfl) B.len_ (by decide +kernel) (pa_cons (pv 5) pa_nil)) pa_nil))) pa_nil)) pa_nil)))))
      (pss_one (ps_ret (pe_tup (pa_cons (pe_callTy call_tuple_ofF (by rfl) B.tuple_ (by decide +kernel) (pa_cons (pv 11) pa_nil)) (pa_cons (pe_callTy call_tuple_of (by rfl) B.tuple_ (by decide +kernel) (pa_cons (pv 6) pa_nil)) pa_nil))))))))))))
   , ?_⟩
  trivial
  refine ⟨(by show 10 ≤ sizeLine; decide), fun l0 hl0 => ?_⟩
  have e0 := L2.Same.of_new hl0 (.lst [.int 1, .int 2, .int 3, .int 3, .int 4, .int 4, .int 4, .int 5, .int 5, .int 6])
  refine ⟨s, l0, _, rfl, hS.same e0, hS.ne' hl0, upd_same, by show 0 < 10; decide, by show 10 < 1073741824; decide, fun i v Ha hv hSa ka => ?_⟩
  obtain ⟨kk, rfl, hk1, hk2⟩ : ∃ kk : Int, v = .int kk ∧ 1 ≤ kk ∧ kk ≤ 6 := by
    have hm := List.mem_of_getElem? hv
    simp only [List.mem_cons, List.not_mem_nil, or_false] at hm
    rcases hm with z | z | z | z | z | z | z | z | z | z <;> exact ⟨_, z, by decide, by decide⟩
  trivial
  obtain ⟨n, hn⟩ : ∃ n, n = (if kk < 6 then kk else 6) := ⟨_, rfl⟩
  have hn1 : 1 ≤ n ∧ n ≤ 6 := by rw [hn]; split <;> omega
  rw [← hn]
  refine ⟨(by show 0 ≤ sizeLine; decide), fun b0 hb0 => ?_⟩
  refine ⟨(by show 0 ≤ sizeLine; decide), fun d0 hd0 => ?_⟩
  refine ⟨(by show 4 ≤ sizeLine; decide), fun tz htz => ?_⟩
  have e1 := ((L2.Same.of_new hb0 (.lst [])).put hd0 (.lst [])).put htz (.tup [.int n, .int 0, .ref b0, .ref d0])
  have hb0' := ((L2.Same.of_new hd0 (.lst [])).put htz (.tup [.int n, .int 0, .ref b0, .ref d0])) _ _ (upd_same (H := Ha) (a := b0) (o := .lst []))
  have hd0' := (L2.Same.of_new htz (.tup [.int n, .int 0, .ref b0, .ref d0])) _ _ (upd_same (H := upd Ha b0 (.lst [])) (a := d0) (o := .lst []))
  have hb0s : b0 ≠ s := hSa.ne' hb0
  have hd0s : d0 ≠ s := (hSa.same (L2.Same.of_new hb0 (.lst []))).ne' hd0
  have hbd0 : b0 ≠ d0 := ne_of_none (upd_same (H := Ha)) hd0
  have kH := e0.kp.trans ka
  have hb0H := kH.free hb0s hb0
  have hd0H := (kH.trans (L2.Same.of_new hb0 (.lst [])).kp).free hd0s hd0
  refine ⟨tz, _, rfl, .of upd_same, rfl, ?_⟩
  trivial
  refine ⟨hSa.same e1, by decide, by decide, fun rl Hb _ _ hSb kb => ?_⟩
  trivial
  refine ⟨by omega, by omega, ?_⟩
  refine for_range (n := n.toNat) (fun t σ H1 => ∃ (left alive : Int) (ba da : Addr) (late : Bool) (u8 u9 u10 : Option V) (bs : List Int) (days : List (List Int)) (dws : List V), σ = [some (.ref s), some (.int 6), some (.int n), some (.int left), some (.int alive), some (.ref ba), some (.ref da), some (.bl late), u8, u9, u10, none] ∧
      Src H1 s ∧ Kp s H H1 ∧ ba ≠ s ∧ da ≠ s ∧ ba ≠ da ∧ H ba = none ∧ H da = none ∧ H1 ba = some (.lst (bs.map V.int)) ∧ H1 da = some (.lst dws) ∧ Tps H1 dws (days.map dI) ∧ DaysOk bs days ∧ alive = endAt bs days ∧ (bs.length : Int) + left = n ∧ 0 ≤ left ∧ days.length ≤ t ∧ (∀ x ∈ bs, 0 ≤ x ∧ x ≤ days.length) ∧ alive ≤ bs.length)
    ⟨n, 0, b0, d0, decide (0 < rl), _, _, _, [], [], [], rfl, hSb, (kH.trans e1.kp).trans kb, hb0s, hd0s, hbd0, hb0H, hd0H, kb _ _ hb0s hb0', kb _ _ hd0s hd0', .nil, .nil _, rfl, by simp, by omega, Nat.zero_le _, fun x hx => (by cases hx), Int.le_refl _⟩ (fun t σ H1 ht h => ?_) (fun σ H1 h => ?_)
  · obtain ⟨left, alive, ba, da, late, u8, u9, u10, bs, days, dws, rfl, hS1, k1, hbas, hdas, hbda, hbaH, hdaH, hba, hda, htw, hDO, hal, hbl, hl0, hdl, hbnd, hab⟩ := h
    have hdwl : dws.length = days.length := by rw [htw.len, List.length_map]
    trivial
    cases late with
    | false =>
      refine iteF ?_
      trivial
      obtain ⟨m1, hm1e⟩ : ∃ m1, m1 = (if left < left then left else left) := ⟨_, rfl⟩
      have hmm : 0 ≤ m1 ∧ m1 ≤ left := by rw [hm1e]; split <;> omega
      rw [← hm1e]
      have k2 := Kp.refl s H1
      have hS2 := hS1
      trivial
      refine ⟨rfl, ?_⟩
      trivial
      by_cases ht0 : t = 0
      · rw [decide_eq_true (show V.int (0 + (t : Int)) = V.int 0 by rw [ht0]; rfl)]
        refine iteT ?_
        trivial
        obtain ⟨mo, hmo⟩ : ∃ mo, mo = (if (if 2 < left then 2 else left) > m1 then (if 2 < left then 2 else left) else m1) := ⟨_, rfl⟩
        have hm0 : 0 ≤ mo := by rw [hmo]; split <;> (try split) <;> omega
        have hm1 : mo ≤ left := by rw [hmo]; split <;> (try split) <;> omega
        rw [← hmo]
        have hba2 := k2 _ _ hbas hba
        have hda2 := k2 _ _ hdas hda
        have kA := k1.trans k2
        trivial
        refine ⟨da, _, rfl, .inl (.of hda2), ?_⟩
        refine ⟨(by show 1 ≤ sizeLine; decide), fun l1 hl1 => ?_⟩
        trivial
        have f1 := L2.Same.of_new hl1 (.lst [.int (dws.length : Nat)])
        refine ⟨l1, mo, _, rfl, rfl, upd_same, by omega, by omega, small_ (by rw [List.length_singleton]; omega), fun l2 hl2 => ?_⟩
        have f2 := f1.put hl2 (.lst (List.replicate mo.toNat [V.int (dws.length : Nat)]).flatten)
        have hrep : (List.replicate mo.toNat [V.int (dws.length : Nat)]).flatten = (List.replicate mo.toNat (days.length : Int)).map V.int := by
          rw [hdwl, rep_flat, List.map_replicate]
        refine ⟨ba, l2, _, _, rfl, rfl, f2 _ _ hba2, upd_same, small_ (by rw [hrep, List.length_map, List.length_map, List.length_replicate]; omega), fun b2 hb2 => ?_⟩
        have f3 := f2.put hb2 (.lst (bs.map V.int ++ (List.replicate mo.toNat [V.int (dws.length : Nat)]).flatten))
        trivial
        refine ⟨_, _, _, rfl, ?_⟩
        trivial
        have hS3 := hS2.same f3
        have k3 := kA.trans f3.kp
        have hb2s : b2 ≠ s := (hS2.same f2).ne' hb2
        have hb2H : H b2 = none := (kA.trans f2.kp).free hb2s hb2
        have hda3 := f3 _ _ hda2
        have hb2d : b2 ≠ da := fun z => by rw [z, f2 _ _ hda2] at hb2; cases hb2
        obtain ⟨bs', hbs'⟩ : ∃ bs', bs' = bs ++ List.replicate mo.toNat (days.length : Int) := ⟨_, rfl⟩
        have hb3 : upd (upd (upd H1 l1 (.lst [.int (dws.length : Nat)])) l2 (.lst (List.replicate mo.toNat [V.int (dws.length : Nat)]).flatten)) b2 (.lst (bs.map V.int ++ (List.replicate mo.toNat [V.int (dws.length : Nat)]).flatten)) b2 = some (.lst (bs'.map V.int)) := by
          rw [upd_same, hrep, hbs', List.map_append]
        have tw3 := htw.mono ((hS1.ts k2).trans f3.ts)
        obtain ⟨hDO', hen⟩ := grow hDO mo.toNat
        rw [← hbs'] at hDO' hen
        have hal' : alive + mo = endAt bs' days := by rw [hen, ← hal]; omega
        have hlb : (bs'.length : Int) = bs.length + mo := by rw [hbs', List.length_append, List.length_replicate]; omega
        have hbl' : (bs'.length : Int) + (left - mo) = n := by omega
        have hbnd' : ∀ x ∈ bs', 0 ≤ x ∧ x ≤ days.length := fun x hx => by
          rw [hbs'] at hx
          rcases List.mem_append.mp hx with z | z
          · exact hbnd x z
          · rw [List.eq_of_mem_replicate z]
            omega
        by_cases ha : 1 < alive + mo
        · rw [decide_eq_true ha]
          refine iteT ?_
          trivial
          refine ⟨hS3, by decide, by decide, fun r6 H3' _ _ hS3' k3' => ?_⟩
          have kC := k3.trans k3'
          have hda3' := k3' _ _ hdas hda3
          have hb3' := k3' _ _ hb2s hb3
          have tw3' := tw3.mono (hS3.ts k3')
          trivial
          by_cases h6 : 0 < r6
          · rw [decide_eq_true h6]
            refine iteT (iteT ?_)
            trivial
            refine ⟨hS3', by omega, by omega, fun r p H4 hS4 k4 hr hp hpo hpl hps => ?_⟩
            trivial
            have kB := kC.trans k4
            have hda4 := k4 _ _ hdas hda3'
            have hb4 := k4 _ _ hb2s hb3'
            refine ⟨.inl ⟨rfl, _, .of hda4⟩, ?_⟩
            trivial
            refine ⟨da, _, _, rfl, rfl, hda4, small_lt (by omega), ?_⟩
            have hp5 := (TS.updL hda4 (.lst (dws ++ [.ref r]))).t _ _ hp
            trivial
            refine ⟨r, p, rfl, .of hp5, ?_⟩
            trivial
            refine ⟨r, _, rfl, .inr (.of hp5), ?_⟩
            trivial
            have tsU := ((hS3').ts k4).trans (TS.updL hda4 (.lst (dws ++ [.ref r])))
            have hsg := sum_ge hpo.two
            refine ⟨_, _, b2, da, _, _, _, _, bs', days ++ [p], dws ++ [.ref r], rfl, hS4.up (Ne.symm hdas), kB.set hdaH _, hb2s, hdas, hb2d, hb2H, hdaH, ?_, upd_same, ?_, hDO'.day hpo (by omega) (by omega), ?_, hbl', by omega, by rw [List.length_append, List.length_singleton]; omega, fun x hx => ?_, ?_⟩
            · rw [upd_ne hb2d]
              exact hb4
            · rw [List.map_append]
              exact ((tw3').mono tsU).append (.one (Tp.dI hp5))
            · show alive + mo - p.sum + ((p.map V.int).length : Nat) = _
              rw [endAt_day, no_count hbnd', List.length_map]
              omega
            · have := hbnd' x hx
              rw [List.length_append, List.length_singleton]
              omega
            · rw [List.length_map]
              omega
          · rw [decide_eq_false h6]
            refine iteF ?_
            trivial
            by_cases hl0 : 0 < left - mo
            · rw [decide_eq_true hl0]
              refine iteT ?_
              trivial
              by_cases ht2 : (0 + (t : Int)) < 2
              · rw [decide_eq_true ht2]
                refine iteT ?_
                trivial
                refine ⟨hS3', by omega, by omega, fun r p H4 hS4 k4 hr hp hpo hpl hps => ?_⟩
                trivial
                have kB := kC.trans k4
                have hda4 := k4 _ _ hdas hda3'
                have hb4 := k4 _ _ hb2s hb3'
                refine ⟨.inl ⟨rfl, _, .of hda4⟩, ?_⟩
                trivial
                refine ⟨da, _, _, rfl, rfl, hda4, small_lt (by omega), ?_⟩
                have hp5 := (TS.updL hda4 (.lst (dws ++ [.ref r]))).t _ _ hp
                trivial
                refine ⟨r, p, rfl, .of hp5, ?_⟩
                trivial
                refine ⟨r, _, rfl, .inr (.of hp5), ?_⟩
                trivial
                have tsU := ((hS3').ts k4).trans (TS.updL hda4 (.lst (dws ++ [.ref r])))
                have hsg := sum_ge hpo.two
                refine ⟨_, _, b2, da, _, _, _, _, bs', days ++ [p], dws ++ [.ref r], rfl, hS4.up (Ne.symm hdas), kB.set hdaH _, hb2s, hdas, hb2d, hb2H, hdaH, ?_, upd_same, ?_, hDO'.day hpo (by omega) (by omega), ?_, hbl', by omega, by rw [List.length_append, List.length_singleton]; omega, fun x hx => ?_, ?_⟩
                · rw [upd_ne hb2d]
                  exact hb4
                · rw [List.map_append]
                  exact ((tw3').mono tsU).append (.one (Tp.dI hp5))
                · show alive + mo - p.sum + ((p.map V.int).length : Nat) = _
                  rw [endAt_day, no_count hbnd', List.length_map]
                  omega
                · have := hbnd' x hx
                  rw [List.length_append, List.length_singleton]
                  omega
                · rw [List.length_map]
                  omega
              · rw [decide_eq_false ht2]
                refine iteF ?_
                exact ⟨_, _, b2, da, _, _, _, _, bs', days, dws, rfl, hS3', kC, hb2s, hdas, hb2d, hb2H, hdaH, hb3', hda3', tw3', hDO', hal', hbl', by omega, by omega, hbnd', by omega⟩
            · rw [decide_eq_false hl0]
              refine iteF (iteF ?_)
              exact ⟨_, _, b2, da, _, _, _, _, bs', days, dws, rfl, hS3', kC, hb2s, hdas, hb2d, hb2H, hdaH, hb3', hda3', tw3', hDO', hal', hbl', by omega, by omega, hbnd', by omega⟩
        · rw [decide_eq_false ha]
          refine iteF (iteF ?_)
          exact ⟨_, _, b2, da, _, _, _, _, bs', days, dws, rfl, hS3, k3, hb2s, hdas, hb2d, hb2H, hdaH, hb3, hda3, tw3, hDO', hal', hbl', by omega, by omega, hbnd', by omega⟩
      · rw [decide_eq_false (show ¬ V.int (0 + (t : Int)) = V.int 0 from fun z => ht0 (by have := V.int.inj z; omega))]
        refine iteF ?_
        obtain ⟨mo, hmo⟩ : ∃ mo, mo = m1 := ⟨_, rfl⟩
        have hm0 : 0 ≤ mo := by omega
        have hm1 : mo ≤ left := by omega
        rw [← hmo]
        have hba2 := k2 _ _ hbas hba
        have hda2 := k2 _ _ hdas hda
        have kA := k1.trans k2
        trivial
        refine ⟨da, _, rfl, .inl (.of hda2), ?_⟩
        refine ⟨(by show 1 ≤ sizeLine; decide), fun l1 hl1 => ?_⟩
        trivial
        have f1 := L2.Same.of_new hl1 (.lst [.int (dws.length : Nat)])
        refine ⟨l1, mo, _, rfl, rfl, upd_same, by omega, by omega, small_ (by rw [List.length_singleton]; omega), fun l2 hl2 => ?_⟩
        have f2 := f1.put hl2 (.lst (List.replicate mo.toNat [V.int (dws.length : Nat)]).flatten)
        have hrep : (List.replicate mo.toNat [V.int (dws.length : Nat)]).flatten = (List.replicate mo.toNat (days.length : Int)).map V.int := by
          rw [hdwl, rep_flat, List.map_replicate]
        refine ⟨ba, l2, _, _, rfl, rfl, f2 _ _ hba2, upd_same, small_ (by rw [hrep, List.length_map, List.length_map, List.length_replicate]; omega), fun b2 hb2 => ?_⟩
        have f3 := f2.put hb2 (.lst (bs.map V.int ++ (List.replicate mo.toNat [V.int (dws.length : Nat)]).flatten))
        trivial
        refine ⟨_, _, _, rfl, ?_⟩
        trivial
        have hS3 := hS2.same f3
        have k3 := kA.trans f3.kp
        have hb2s : b2 ≠ s := (hS2.same f2).ne' hb2
        have hb2H : H b2 = none := (kA.trans f2.kp).free hb2s hb2
        have hda3 := f3 _ _ hda2
        have hb2d : b2 ≠ da := fun z => by rw [z, f2 _ _ hda2] at hb2; cases hb2
        obtain ⟨bs', hbs'⟩ : ∃ bs', bs' = bs ++ List.replicate mo.toNat (days.length : Int) := ⟨_, rfl⟩
        have hb3 : upd (upd (upd H1 l1 (.lst [.int (dws.length : Nat)])) l2 (.lst (List.replicate mo.toNat [V.int (dws.length : Nat)]).flatten)) b2 (.lst (bs.map V.int ++ (List.replicate mo.toNat [V.int (dws.length : Nat)]).flatten)) b2 = some (.lst (bs'.map V.int)) := by
          rw [upd_same, hrep, hbs', List.map_append]
        have tw3 := htw.mono ((hS1.ts k2).trans f3.ts)
        obtain ⟨hDO', hen⟩ := grow hDO mo.toNat
        rw [← hbs'] at hDO' hen
        have hal' : alive + mo = endAt bs' days := by rw [hen, ← hal]; omega
        have hlb : (bs'.length : Int) = bs.length + mo := by rw [hbs', List.length_append, List.length_replicate]; omega
        have hbl' : (bs'.length : Int) + (left - mo) = n := by omega
        have hbnd' : ∀ x ∈ bs', 0 ≤ x ∧ x ≤ days.length := fun x hx => by
          rw [hbs'] at hx
          rcases List.mem_append.mp hx with z | z
          · exact hbnd x z
          · rw [List.eq_of_mem_replicate z]
            omega
        by_cases ha : 1 < alive + mo
        · rw [decide_eq_true ha]
          refine iteT ?_
          trivial
          refine ⟨hS3, by decide, by decide, fun r6 H3' _ _ hS3' k3' => ?_⟩
          have kC := k3.trans k3'
          have hda3' := k3' _ _ hdas hda3
          have hb3' := k3' _ _ hb2s hb3
          have tw3' := tw3.mono (hS3.ts k3')
          trivial
          by_cases h6 : 0 < r6
          · rw [decide_eq_true h6]
            refine iteT (iteT ?_)
            trivial
            refine ⟨hS3', by omega, by omega, fun r p H4 hS4 k4 hr hp hpo hpl hps => ?_⟩
            trivial
            have kB := kC.trans k4
            have hda4 := k4 _ _ hdas hda3'
            have hb4 := k4 _ _ hb2s hb3'
            refine ⟨.inl ⟨rfl, _, .of hda4⟩, ?_⟩
            trivial
            refine ⟨da, _, _, rfl, rfl, hda4, small_lt (by omega), ?_⟩
            have hp5 := (TS.updL hda4 (.lst (dws ++ [.ref r]))).t _ _ hp
            trivial
            refine ⟨r, p, rfl, .of hp5, ?_⟩
            trivial
            refine ⟨r, _, rfl, .inr (.of hp5), ?_⟩
            trivial
            have tsU := ((hS3').ts k4).trans (TS.updL hda4 (.lst (dws ++ [.ref r])))
            have hsg := sum_ge hpo.two
            refine ⟨_, _, b2, da, _, _, _, _, bs', days ++ [p], dws ++ [.ref r], rfl, hS4.up (Ne.symm hdas), kB.set hdaH _, hb2s, hdas, hb2d, hb2H, hdaH, ?_, upd_same, ?_, hDO'.day hpo (by omega) (by omega), ?_, hbl', by omega, by rw [List.length_append, List.length_singleton]; omega, fun x hx => ?_, ?_⟩
            · rw [upd_ne hb2d]
              exact hb4
            · rw [List.map_append]
              exact ((tw3').mono tsU).append (.one (Tp.dI hp5))
            · show alive + mo - p.sum + ((p.map V.int).length : Nat) = _
              rw [endAt_day, no_count hbnd', List.length_map]
              omega
            · have := hbnd' x hx
              rw [List.length_append, List.length_singleton]
              omega
            · rw [List.length_map]
              omega
          · rw [decide_eq_false h6]
            refine iteF ?_
            trivial
            by_cases hl0 : 0 < left - mo
            · rw [decide_eq_true hl0]
              refine iteT ?_
              trivial
              by_cases ht2 : (0 + (t : Int)) < 2
              · rw [decide_eq_true ht2]
                refine iteT ?_
                trivial
                refine ⟨hS3', by omega, by omega, fun r p H4 hS4 k4 hr hp hpo hpl hps => ?_⟩
                trivial
                have kB := kC.trans k4
                have hda4 := k4 _ _ hdas hda3'
                have hb4 := k4 _ _ hb2s hb3'
                refine ⟨.inl ⟨rfl, _, .of hda4⟩, ?_⟩
                trivial
                refine ⟨da, _, _, rfl, rfl, hda4, small_lt (by omega), ?_⟩
                have hp5 := (TS.updL hda4 (.lst (dws ++ [.ref r]))).t _ _ hp
                trivial
                refine ⟨r, p, rfl, .of hp5, ?_⟩
                trivial
                refine ⟨r, _, rfl, .inr (.of hp5), ?_⟩
                trivial
                have tsU := ((hS3').ts k4).trans (TS.updL hda4 (.lst (dws ++ [.ref r])))
                have hsg := sum_ge hpo.two
                refine ⟨_, _, b2, da, _, _, _, _, bs', days ++ [p], dws ++ [.ref r], rfl, hS4.up (Ne.symm hdas), kB.set hdaH _, hb2s, hdas, hb2d, hb2H, hdaH, ?_, upd_same, ?_, hDO'.day hpo (by omega) (by omega), ?_, hbl', by omega, by rw [List.length_append, List.length_singleton]; omega, fun x hx => ?_, ?_⟩
                · rw [upd_ne hb2d]
                  exact hb4
                · rw [List.map_append]
                  exact ((tw3').mono tsU).append (.one (Tp.dI hp5))
                · show alive + mo - p.sum + ((p.map V.int).length : Nat) = _
                  rw [endAt_day, no_count hbnd', List.length_map]
                  omega
                · have := hbnd' x hx
                  rw [List.length_append, List.length_singleton]
                  omega
                · rw [List.length_map]
                  omega
              · rw [decide_eq_false ht2]
                refine iteF ?_
                exact ⟨_, _, b2, da, _, _, _, _, bs', days, dws, rfl, hS3', kC, hb2s, hdas, hb2d, hb2H, hdaH, hb3', hda3', tw3', hDO', hal', hbl', by omega, by omega, hbnd', by omega⟩
            · rw [decide_eq_false hl0]
              refine iteF (iteF ?_)
              exact ⟨_, _, b2, da, _, _, _, _, bs', days, dws, rfl, hS3', kC, hb2s, hdas, hb2d, hb2H, hdaH, hb3', hda3', tw3', hDO', hal', hbl', by omega, by omega, hbnd', by omega⟩
        · rw [decide_eq_false ha]
          refine iteF (iteF ?_)
          exact ⟨_, _, b2, da, _, _, _, _, bs', days, dws, rfl, hS3, k3, hb2s, hdas, hb2d, hb2H, hdaH, hb3, hda3, tw3, hDO', hal', hbl', by omega, by omega, hbnd', by omega⟩
    | true =>
      refine iteT ?_
      trivial
      refine ⟨(by show 4 ≤ sizeLine; decide), fun l9 hl9 => ?_⟩
      have e9 := L2.Same.of_new hl9 (.lst [.int left, .int 1, .int 2, .int 0])
      refine ⟨s, l9, _, rfl, hS1.same e9, hS1.ne' hl9, upd_same, by show 0 < 4; decide, by show 4 < 1073741824; decide, fun i v H2 hv hS2 k2' => ?_⟩
      have k2 := e9.kp.trans k2'
      obtain ⟨m9, rfl, hm9⟩ : ∃ m9 : Int, v = .int m9 ∧ 0 ≤ m9 := by
        have hm := List.mem_of_getElem? hv
        simp only [List.mem_cons, List.not_mem_nil, or_false] at hm
        rcases hm with z | z | z | z
        · exact ⟨_, z, hl0⟩
        · exact ⟨_, z, by decide⟩
        · exact ⟨_, z, by decide⟩
        · exact ⟨_, z, by decide⟩
      trivial
      obtain ⟨m1, hm1e⟩ : ∃ m1, m1 = (if m9 < left then m9 else left) := ⟨_, rfl⟩
      have hmm : 0 ≤ m1 ∧ m1 ≤ left := by rw [hm1e]; split <;> omega
      rw [← hm1e]
      trivial
      refine ⟨rfl, ?_⟩
      trivial
      by_cases ht0 : t = 0
      · rw [decide_eq_true (show V.int (0 + (t : Int)) = V.int 0 by rw [ht0]; rfl)]
        refine iteT ?_
        trivial
        obtain ⟨mo, hmo⟩ : ∃ mo, mo = (if (if 2 < left then 2 else left) > m1 then (if 2 < left then 2 else left) else m1) := ⟨_, rfl⟩
        have hm0 : 0 ≤ mo := by rw [hmo]; split <;> (try split) <;> omega
        have hm1 : mo ≤ left := by rw [hmo]; split <;> (try split) <;> omega
        rw [← hmo]
        have hba2 := k2 _ _ hbas hba
        have hda2 := k2 _ _ hdas hda
        have kA := k1.trans k2
        trivial
        refine ⟨da, _, rfl, .inl (.of hda2), ?_⟩
        refine ⟨(by show 1 ≤ sizeLine; decide), fun l1 hl1 => ?_⟩
        trivial
        have f1 := L2.Same.of_new hl1 (.lst [.int (dws.length : Nat)])
        refine ⟨l1, mo, _, rfl, rfl, upd_same, by omega, by omega, small_ (by rw [List.length_singleton]; omega), fun l2 hl2 => ?_⟩
        have f2 := f1.put hl2 (.lst (List.replicate mo.toNat [V.int (dws.length : Nat)]).flatten)
        have hrep : (List.replicate mo.toNat [V.int (dws.length : Nat)]).flatten = (List.replicate mo.toNat (days.length : Int)).map V.int := by
          rw [hdwl, rep_flat, List.map_replicate]
        refine ⟨ba, l2, _, _, rfl, rfl, f2 _ _ hba2, upd_same, small_ (by rw [hrep, List.length_map, List.length_map, List.length_replicate]; omega), fun b2 hb2 => ?_⟩
        have f3 := f2.put hb2 (.lst (bs.map V.int ++ (List.replicate mo.toNat [V.int (dws.length : Nat)]).flatten))
        trivial
        refine ⟨_, _, _, rfl, ?_⟩
        trivial
        have hS3 := hS2.same f3
        have k3 := kA.trans f3.kp
        have hb2s : b2 ≠ s := (hS2.same f2).ne' hb2
        have hb2H : H b2 = none := (kA.trans f2.kp).free hb2s hb2
        have hda3 := f3 _ _ hda2
        have hb2d : b2 ≠ da := fun z => by rw [z, f2 _ _ hda2] at hb2; cases hb2
        obtain ⟨bs', hbs'⟩ : ∃ bs', bs' = bs ++ List.replicate mo.toNat (days.length : Int) := ⟨_, rfl⟩
        have hb3 : upd (upd (upd H2 l1 (.lst [.int (dws.length : Nat)])) l2 (.lst (List.replicate mo.toNat [V.int (dws.length : Nat)]).flatten)) b2 (.lst (bs.map V.int ++ (List.replicate mo.toNat [V.int (dws.length : Nat)]).flatten)) b2 = some (.lst (bs'.map V.int)) := by
          rw [upd_same, hrep, hbs', List.map_append]
        have tw3 := htw.mono ((hS1.ts k2).trans f3.ts)
        obtain ⟨hDO', hen⟩ := grow hDO mo.toNat
        rw [← hbs'] at hDO' hen
        have hal' : alive + mo = endAt bs' days := by rw [hen, ← hal]; omega
        have hlb : (bs'.length : Int) = bs.length + mo := by rw [hbs', List.length_append, List.length_replicate]; omega
        have hbl' : (bs'.length : Int) + (left - mo) = n := by omega
        have hbnd' : ∀ x ∈ bs', 0 ≤ x ∧ x ≤ days.length := fun x hx => by
          rw [hbs'] at hx
          rcases List.mem_append.mp hx with z | z
          · exact hbnd x z
          · rw [List.eq_of_mem_replicate z]
            omega
        by_cases ha : 1 < alive + mo
        · rw [decide_eq_true ha]
          refine iteT ?_
          trivial
          refine ⟨hS3, by decide, by decide, fun r6 H3' _ _ hS3' k3' => ?_⟩
          have kC := k3.trans k3'
          have hda3' := k3' _ _ hdas hda3
          have hb3' := k3' _ _ hb2s hb3
          have tw3' := tw3.mono (hS3.ts k3')
          trivial
          by_cases h6 : 0 < r6
          · rw [decide_eq_true h6]
            refine iteT (iteT ?_)
            trivial
            refine ⟨hS3', by omega, by omega, fun r p H4 hS4 k4 hr hp hpo hpl hps => ?_⟩
            trivial
            have kB := kC.trans k4
            have hda4 := k4 _ _ hdas hda3'
            have hb4 := k4 _ _ hb2s hb3'
            refine ⟨.inl ⟨rfl, _, .of hda4⟩, ?_⟩
            trivial
            refine ⟨da, _, _, rfl, rfl, hda4, small_lt (by omega), ?_⟩
            have hp5 := (TS.updL hda4 (.lst (dws ++ [.ref r]))).t _ _ hp
            trivial
            refine ⟨r, p, rfl, .of hp5, ?_⟩
            trivial
            refine ⟨r, _, rfl, .inr (.of hp5), ?_⟩
            trivial
            have tsU := ((hS3').ts k4).trans (TS.updL hda4 (.lst (dws ++ [.ref r])))
            have hsg := sum_ge hpo.two
            refine ⟨_, _, b2, da, _, _, _, _, bs', days ++ [p], dws ++ [.ref r], rfl, hS4.up (Ne.symm hdas), kB.set hdaH _, hb2s, hdas, hb2d, hb2H, hdaH, ?_, upd_same, ?_, hDO'.day hpo (by omega) (by omega), ?_, hbl', by omega, by rw [List.length_append, List.length_singleton]; omega, fun x hx => ?_, ?_⟩
            · rw [upd_ne hb2d]
              exact hb4
            · rw [List.map_append]
              exact ((tw3').mono tsU).append (.one (Tp.dI hp5))
            · show alive + mo - p.sum + ((p.map V.int).length : Nat) = _
              rw [endAt_day, no_count hbnd', List.length_map]
              omega
            · have := hbnd' x hx
              rw [List.length_append, List.length_singleton]
              omega
            · rw [List.length_map]
              omega
          · rw [decide_eq_false h6]
            refine iteF ?_
            trivial
            by_cases hl0 : 0 < left - mo
            · rw [decide_eq_true hl0]
              refine iteT ?_
              trivial
              by_cases ht2 : (0 + (t : Int)) < 2
              · rw [decide_eq_true ht2]
                refine iteT ?_
                trivial
                refine ⟨hS3', by omega, by omega, fun r p H4 hS4 k4 hr hp hpo hpl hps => ?_⟩
                trivial
                have kB := kC.trans k4
                have hda4 := k4 _ _ hdas hda3'
                have hb4 := k4 _ _ hb2s hb3'
                refine ⟨.inl ⟨rfl, _, .of hda4⟩, ?_⟩
                trivial
                refine ⟨da, _, _, rfl, rfl, hda4, small_lt (by omega), ?_⟩
                have hp5 := (TS.updL hda4 (.lst (dws ++ [.ref r]))).t _ _ hp
                trivial
                refine ⟨r, p, rfl, .of hp5, ?_⟩
                trivial
                refine ⟨r, _, rfl, .inr (.of hp5), ?_⟩
                trivial
                have tsU := ((hS3').ts k4).trans (TS.updL hda4 (.lst (dws ++ [.ref r])))
                have hsg := sum_ge hpo.two
                refine ⟨_, _, b2, da, _, _, _, _, bs', days ++ [p], dws ++ [.ref r], rfl, hS4.up (Ne.symm hdas), kB.set hdaH _, hb2s, hdas, hb2d, hb2H, hdaH, ?_, upd_same, ?_, hDO'.day hpo (by omega) (by omega), ?_, hbl', by omega, by rw [List.length_append, List.length_singleton]; omega, fun x hx => ?_, ?_⟩
                · rw [upd_ne hb2d]
                  exact hb4
                · rw [List.map_append]
                  exact ((tw3').mono tsU).append (.one (Tp.dI hp5))
                · show alive + mo - p.sum + ((p.map V.int).length : Nat) = _
                  rw [endAt_day, no_count hbnd', List.length_map]
                  omega
                · have := hbnd' x hx
                  rw [List.length_append, List.length_singleton]
                  omega
                · rw [List.length_map]
                  omega
              · rw [decide_eq_false ht2]
                refine iteF ?_
                exact ⟨_, _, b2, da, _, _, _, _, bs', days, dws, rfl, hS3', kC, hb2s, hdas, hb2d, hb2H, hdaH, hb3', hda3', tw3', hDO', hal', hbl', by omega, by omega, hbnd', by omega⟩
            · rw [decide_eq_false hl0]
              refine iteF (iteF ?_)
              exact ⟨_, _, b2, da, _, _, _, _, bs', days, dws, rfl, hS3', kC, hb2s, hdas, hb2d, hb2H, hdaH, hb3', hda3', tw3', hDO', hal', hbl', by omega, by omega, hbnd', by omega⟩
        · rw [decide_eq_false ha]
          refine iteF (iteF ?_)
          exact ⟨_, _, b2, da, _, _, _, _, bs', days, dws, rfl, hS3, k3, hb2s, hdas, hb2d, hb2H, hdaH, hb3, hda3, tw3, hDO', hal', hbl', by omega, by omega, hbnd', by omega⟩
      · rw [decide_eq_false (show ¬ V.int (0 + (t : Int)) = V.int 0 from fun z => ht0 (by have := V.int.inj z; omega))]
        refine iteF ?_
        obtain ⟨mo, hmo⟩ : ∃ mo, mo = m1 := ⟨_, rfl⟩
        have hm0 : 0 ≤ mo := by omega
        have hm1 : mo ≤ left := by omega
        rw [← hmo]
        have hba2 := k2 _ _ hbas hba
        have hda2 := k2 _ _ hdas hda
        have kA := k1.trans k2
        trivial
        refine ⟨da, _, rfl, .inl (.of hda2), ?_⟩
        refine ⟨(by show 1 ≤ sizeLine; decide), fun l1 hl1 => ?_⟩
        trivial
        have f1 := L2.Same.of_new hl1 (.lst [.int (dws.length : Nat)])
        refine ⟨l1, mo, _, rfl, rfl, upd_same, by omega, by omega, small_ (by rw [List.length_singleton]; omega), fun l2 hl2 => ?_⟩
        have f2 := f1.put hl2 (.lst (List.replicate mo.toNat [V.int (dws.length : Nat)]).flatten)
        have hrep : (List.replicate mo.toNat [V.int (dws.length : Nat)]).flatten = (List.replicate mo.toNat (days.length : Int)).map V.int := by
          rw [hdwl, rep_flat, List.map_replicate]
        refine ⟨ba, l2, _, _, rfl, rfl, f2 _ _ hba2, upd_same, small_ (by rw [hrep, List.length_map, List.length_map, List.length_replicate]; omega), fun b2 hb2 => ?_⟩
        have f3 := f2.put hb2 (.lst (bs.map V.int ++ (List.replicate mo.toNat [V.int (dws.length : Nat)]).flatten))
        trivial
        refine ⟨_, _, _, rfl, ?_⟩
        trivial
        have hS3 := hS2.same f3
        have k3 := kA.trans f3.kp
        have hb2s : b2 ≠ s := (hS2.same f2).ne' hb2
        have hb2H : H b2 = none := (kA.trans f2.kp).free hb2s hb2
        have hda3 := f3 _ _ hda2
        have hb2d : b2 ≠ da := fun z => by rw [z, f2 _ _ hda2] at hb2; cases hb2
        obtain ⟨bs', hbs'⟩ : ∃ bs', bs' = bs ++ List.replicate mo.toNat (days.length : Int) := ⟨_, rfl⟩
        have hb3 : upd (upd (upd H2 l1 (.lst [.int (dws.length : Nat)])) l2 (.lst (List.replicate mo.toNat [V.int (dws.length : Nat)]).flatten)) b2 (.lst (bs.map V.int ++ (List.replicate mo.toNat [V.int (dws.length : Nat)]).flatten)) b2 = some (.lst (bs'.map V.int)) := by
          rw [upd_same, hrep, hbs', List.map_append]
        have tw3 := htw.mono ((hS1.ts k2).trans f3.ts)
        obtain ⟨hDO', hen⟩ := grow hDO mo.toNat
        rw [← hbs'] at hDO' hen
        have hal' : alive + mo = endAt bs' days := by rw [hen, ← hal]; omega
        have hlb : (bs'.length : Int) = bs.length + mo := by rw [hbs', List.length_append, List.length_replicate]; omega
        have hbl' : (bs'.length : Int) + (left - mo) = n := by omega
        have hbnd' : ∀ x ∈ bs', 0 ≤ x ∧ x ≤ days.length := fun x hx => by
          rw [hbs'] at hx
          rcases List.mem_append.mp hx with z | z
          · exact hbnd x z
          · rw [List.eq_of_mem_replicate z]
            omega
        by_cases ha : 1 < alive + mo
        · rw [decide_eq_true ha]
          refine iteT ?_
          trivial
          refine ⟨hS3, by decide, by decide, fun r6 H3' _ _ hS3' k3' => ?_⟩
          have kC := k3.trans k3'
          have hda3' := k3' _ _ hdas hda3
          have hb3' := k3' _ _ hb2s hb3
          have tw3' := tw3.mono (hS3.ts k3')
          trivial
          by_cases h6 : 0 < r6
          · rw [decide_eq_true h6]
            refine iteT (iteT ?_)
            trivial
            refine ⟨hS3', by omega, by omega, fun r p H4 hS4 k4 hr hp hpo hpl hps => ?_⟩
            trivial
            have kB := kC.trans k4
            have hda4 := k4 _ _ hdas hda3'
            have hb4 := k4 _ _ hb2s hb3'
            refine ⟨.inl ⟨rfl, _, .of hda4⟩, ?_⟩
            trivial
            refine ⟨da, _, _, rfl, rfl, hda4, small_lt (by omega), ?_⟩
            have hp5 := (TS.updL hda4 (.lst (dws ++ [.ref r]))).t _ _ hp
            trivial
            refine ⟨r, p, rfl, .of hp5, ?_⟩
            trivial
            refine ⟨r, _, rfl, .inr (.of hp5), ?_⟩
            trivial
            have tsU := ((hS3').ts k4).trans (TS.updL hda4 (.lst (dws ++ [.ref r])))
            have hsg := sum_ge hpo.two
            refine ⟨_, _, b2, da, _, _, _, _, bs', days ++ [p], dws ++ [.ref r], rfl, hS4.up (Ne.symm hdas), kB.set hdaH _, hb2s, hdas, hb2d, hb2H, hdaH, ?_, upd_same, ?_, hDO'.day hpo (by omega) (by omega), ?_, hbl', by omega, by rw [List.length_append, List.length_singleton]; omega, fun x hx => ?_, ?_⟩
            · rw [upd_ne hb2d]
              exact hb4
            · rw [List.map_append]
              exact ((tw3').mono tsU).append (.one (Tp.dI hp5))
            · show alive + mo - p.sum + ((p.map V.int).length : Nat) = _
              rw [endAt_day, no_count hbnd', List.length_map]
              omega
            · have := hbnd' x hx
              rw [List.length_append, List.length_singleton]
              omega
            · rw [List.length_map]
              omega
          · rw [decide_eq_false h6]
            refine iteF ?_
            trivial
            by_cases hl0 : 0 < left - mo
            · rw [decide_eq_true hl0]
              refine iteT ?_
              trivial
              by_cases ht2 : (0 + (t : Int)) < 2
              · rw [decide_eq_true ht2]
                refine iteT ?_
                trivial
                refine ⟨hS3', by omega, by omega, fun r p H4 hS4 k4 hr hp hpo hpl hps => ?_⟩
                trivial
                have kB := kC.trans k4
                have hda4 := k4 _ _ hdas hda3'
                have hb4 := k4 _ _ hb2s hb3'
                refine ⟨.inl ⟨rfl, _, .of hda4⟩, ?_⟩
                trivial
                refine ⟨da, _, _, rfl, rfl, hda4, small_lt (by omega), ?_⟩
                have hp5 := (TS.updL hda4 (.lst (dws ++ [.ref r]))).t _ _ hp
                trivial
                refine ⟨r, p, rfl, .of hp5, ?_⟩
                trivial
                refine ⟨r, _, rfl, .inr (.of hp5), ?_⟩
                trivial
                have tsU := ((hS3').ts k4).trans (TS.updL hda4 (.lst (dws ++ [.ref r])))
                have hsg := sum_ge hpo.two
                refine ⟨_, _, b2, da, _, _, _, _, bs', days ++ [p], dws ++ [.ref r], rfl, hS4.up (Ne.symm hdas), kB.set hdaH _, hb2s, hdas, hb2d, hb2H, hdaH, ?_, upd_same, ?_, hDO'.day hpo (by omega) (by omega), ?_, hbl', by omega, by rw [List.length_append, List.length_singleton]; omega, fun x hx => ?_, ?_⟩
                · rw [upd_ne hb2d]
                  exact hb4
                · rw [List.map_append]
                  exact ((tw3').mono tsU).append (.one (Tp.dI hp5))
                · show alive + mo - p.sum + ((p.map V.int).length : Nat) = _
                  rw [endAt_day, no_count hbnd', List.length_map]
                  omega
                · have := hbnd' x hx
                  rw [List.length_append, List.length_singleton]
                  omega
                · rw [List.length_map]
                  omega
              · rw [decide_eq_false ht2]
                refine iteF ?_
                exact ⟨_, _, b2, da, _, _, _, _, bs', days, dws, rfl, hS3', kC, hb2s, hdas, hb2d, hb2H, hdaH, hb3', hda3', tw3', hDO', hal', hbl', by omega, by omega, hbnd', by omega⟩
            · rw [decide_eq_false hl0]
              refine iteF (iteF ?_)
              exact ⟨_, _, b2, da, _, _, _, _, bs', days, dws, rfl, hS3', kC, hb2s, hdas, hb2d, hb2H, hdaH, hb3', hda3', tw3', hDO', hal', hbl', by omega, by omega, hbnd', by omega⟩
        · rw [decide_eq_false ha]
          refine iteF (iteF ?_)
          exact ⟨_, _, b2, da, _, _, _, _, bs', days, dws, rfl, hS3, k3, hb2s, hdas, hb2d, hb2H, hdaH, hb3, hda3, tw3, hDO', hal', hbl', by omega, by omega, hbnd', by omega⟩
  · obtain ⟨left, alive, ba, da, late, u8, u9, u10, bs, days, dws, rfl, hS1, k1, hbas, hdas, hbda, hbaH, hdaH, hba, hda, htw, hDO, hal, hbl, hl0, hdl, hbnd, hab⟩ := h
    trivial
    refine ⟨da, _, rfl, .inl (.of hda), ?_⟩
    refine ⟨(by show 1 ≤ sizeLine; decide), fun l1 hl1 => ?_⟩
    trivial
    have hdwl : dws.length = days.length := by rw [htw.len, List.length_map]
    have f1 := L2.Same.of_new hl1 (.lst [.int (dws.length : Nat)])
    refine ⟨l1, left, _, rfl, rfl, upd_same, by omega, by omega, small_ (by rw [List.length_singleton]; omega), fun l2 hl2 => ?_⟩
    have f2 := f1.put hl2 (.lst (List.replicate left.toNat [V.int (dws.length : Nat)]).flatten)
    have hrep : (List.replicate left.toNat [V.int (dws.length : Nat)]).flatten = (List.replicate left.toNat (days.length : Int)).map V.int := by
      rw [hdwl, rep_flat, List.map_replicate]
    refine ⟨ba, l2, _, _, rfl, rfl, f2 _ _ hba, upd_same, small_ (by rw [hrep, List.length_map, List.length_map, List.length_replicate]; omega), fun b2 hb2 => ?_⟩
    have f3 := f2.put hb2 (.lst (bs.map V.int ++ (List.replicate left.toNat [V.int (dws.length : Nat)]).flatten))
    have hS3 := hS1.same f3
    have k3 := k1.trans f3.kp
    have hb2s : b2 ≠ s := (hS1.same f2).ne' hb2
    have hb2H : H b2 = none := (k1.trans f2.kp).free hb2s hb2
    have hda3 := f3 _ _ hda
    have hb2d : b2 ≠ da := fun z => by rw [z, f2 _ _ hda] at hb2; cases hb2
    obtain ⟨bs', hbs'⟩ : ∃ bs', bs' = bs ++ List.replicate left.toNat (days.length : Int) := ⟨_, rfl⟩
    have hb3 : upd (upd (upd H1 l1 (.lst [.int (dws.length : Nat)])) l2 (.lst (List.replicate left.toNat [V.int (dws.length : Nat)]).flatten)) b2 (.lst (bs.map V.int ++ (List.replicate left.toNat [V.int (dws.length : Nat)]).flatten)) b2 = some (.lst (bs'.map V.int)) := by
      rw [upd_same, hrep, hbs', List.map_append]
    have tw3 := htw.mono f3.ts
    obtain ⟨hDO', _⟩ := grow hDO left.toNat
    rw [← hbs'] at hDO'
    have hbl' : (bs'.length : Int) = n := by rw [hbs', List.length_append, List.length_replicate]; omega
    have hbnd' : ∀ x ∈ bs', 0 ≤ x ∧ x ≤ days.length := fun x hx => by
      rw [hbs'] at hx
      rcases List.mem_append.mp hx with z | z
      · exact hbnd x z
      · rw [List.eq_of_mem_replicate z]
        omega
    refine ⟨(by show 0 ≤ sizeLine; decide), fun gA hgA => ?_⟩
    have f4 := L2.Same.of_new hgA (.lst [])
    have hgAs : gA ≠ s := hS3.ne' hgA
    have hgAH : H gA = none := k3.free hgAs hgA
    have hgAb : gA ≠ b2 := fun z => by rw [z, hb3] at hgA; cases hgA
    have hgAd : gA ≠ da := fun z => by rw [z, hda3] at hgA; cases hgA
    trivial
    refine ⟨by omega, by omega, ?_⟩
    refine for_range (n := n.toNat) (fun m σ H8 => ∃ (u8 : Option V) (gp rest2 : List Int), σ = [some (.ref s), some (.int 6), some (.int n), some (.int left), some (.int alive), some (.ref b2), some (.ref da), some (.bl late), u8, u9, u10, some (.ref gA)] ∧ Src H8 s ∧ Kp s H H8 ∧ H8 b2 = some (.lst (rest2.map V.int)) ∧ H8 da = some (.lst dws) ∧ Tps H8 dws (days.map dI) ∧ H8 gA = some (.lst (gp.map V.int)) ∧ gp.length = m ∧ (gp ++ rest2).Perm bs')
      ⟨_, [], bs', rfl, hS3.same f4, k3.trans f4.kp, f4 _ _ hb3, f4 _ _ hda3, tw3.mono f4.ts, upd_same, rfl, .refl _⟩ (fun m σ H8 hm h => ?_) (fun σ H8 h => ?_)
    · obtain ⟨u8, gp, rest2, rfl, hS8, k8, hlf8, hda8, tw8, hgA8, hgp, hperm8⟩ := h
      have hl8 := hperm8.length_eq
      rw [List.length_append] at hl8
      have hpos : 0 < rest2.length := by omega
      trivial
      refine ⟨.inl ⟨rfl, _, .of hgA8⟩, ?_⟩
      trivial
      refine ⟨.inl ⟨rfl, _, .of hlf8⟩, ?_⟩
      trivial
      refine ⟨b2, _, rfl, .inl (.of hlf8), ?_⟩
      rw [List.length_map]
      refine ⟨s, rest2.length, rfl, hS8, by omega, by omega, fun rr H9 rr0 rr1 hS9 k9 => ?_⟩
      obtain ⟨idx, rfl⟩ := Int.eq_ofNat_of_zero_le rr0
      have hidx : idx < rest2.length := by omega
      have hlf9 := k9 _ _ hb2s hlf8
      have hgA9 := k9 _ _ hgAs hgA8
      have hda9 := k9 _ _ hdas hda8
      have hget : rest2[idx]? = some rest2[idx] := List.getElem?_eq_getElem hidx
      refine ⟨b2, _, _, idx, .int rest2[idx], rfl, rfl, hlf9, by omega, by omega, by rw [List.length_map]; exact seqIndex_of (by omega) (by omega), by rw [List.getElem?_map, hget]; rfl, ?_⟩
      have hgA10 : upd H9 b2 (.lst ((rest2.map V.int).eraseIdx idx)) gA = some (.lst (gp.map V.int)) := by rw [upd_ne hgAb]; exact hgA9
      refine ⟨gA, _, _, rfl, rfl, hgA10, small_lt (by rw [List.length_map]; omega), ?_⟩
      have t9 := (hS8.ts k9).trans ((TS.updL hlf9 (.lst ((rest2.map V.int).eraseIdx idx))).trans (TS.updL hgA10 (.lst (gp.map V.int ++ [.int rest2[idx]]))))
      refine ⟨_, gp ++ [rest2[idx]], rest2.eraseIdx idx, rfl, (hS9.up (Ne.symm hb2s)).up (Ne.symm hgAs), ((k8.trans k9).set hb2H _).set hgAH _, ?_, ?_, tw8.mono t9, ?_, ?_, ?_⟩
      · rw [upd_ne hgAb.symm, upd_same, erase_map]
      · rw [upd_ne hgAd.symm, upd_ne hb2d.symm]
        exact hda9
      · rw [upd_same, List.map_append]
        rfl
      · rw [List.length_append, hgp]
        rfl
      · refine .trans ?_ hperm8
        rw [List.append_assoc]
        exact .append_left _ (erase_perm hget).symm
    · obtain ⟨u8, gp, rest2, rfl, hS8, k8, hlf8, hda8, tw8, hgA8, hgp, hperm8⟩ := h
      have hl8 := hperm8.length_eq
      rw [List.length_append] at hl8
      have hr0 : rest2 = [] := List.length_eq_zero_iff.mp (by omega)
      subst hr0
      rw [List.append_nil] at hperm8
      trivial
      refine ⟨gA, _, rfl, .of hgA8, fun vb H9 hvb e9 hf => ?_⟩
      trivial
      have hda9 := e9 _ _ hda8
      refine ⟨da, dws, rfl, .inl ⟨.of hda9, fun vd hvd => ?_⟩⟩
      have e10 := e9.put hvd (.tup dws)
      refine ⟨(by show 2 ≤ sizeLine; decide), fun cal hcal => ?_⟩
      have e11 := e10.put hcal (.tup [.ref vb, .ref vd])
      have g2 := (L2.Same.of_new hvd (.tup dws)).put hcal (.tup [.ref vb, .ref vd])
      have hvd' := (L2.Same.of_new hcal (.tup [.ref vb, .ref vd])) _ _ (upd_same (H := H9) (a := vd) (o := .tup dws))
      exact q cal vb vd gp days _ (hS8.same e11) (k8.trans e11.kp) upd_same ⟨let ⟨o, h, h2⟩ := hf; ⟨o, g2 _ _ h, h2⟩, Tps.mk' hvd' (tw8.mono e11.ts)⟩
        ((hDO'.perm hperm8.symm).cal (by omega) (by omega) (by omega) fun x hx => hbnd' x (hperm8.mem_iff.mp hx))
end
end G93

set_option Elab.async false
set_option linter.all false
set_option maxRecDepth 100000
set_option maxHeartbeats 4000000
/-! plain laws: a drawn wood -/
namespace G93
open PySem
/-- ints and tuples that hold something -/
inductive Wn (L : Nat) : PyData → Prop where
  | int (i : Int) : Wn L (.int i)
  | tup {ds : List PyData} (h0 : 1 ≤ ds.length) (h : ds.length ≤ L) (ha : ∀ d ∈ ds, Wn L d) : Wn L (.tuple ds)
theorem Wn.inv {L : Nat} {ds : List PyData} (h : Wn L (.tuple ds)) : 1 ≤ ds.length ∧ ds.length ≤ L ∧ ∀ d ∈ ds, Wn L d := by
  cases h with
  | tup h0 h ha => exact ⟨h0, h, ha⟩
theorem Wn.wd {L M : Nat} {d : PyData} (hLM : L ≤ M) (h : Wn L d) : Wd M d := by
  induction h with
  | int i => exact .int i
  | tup _ h _ ih => exact .tup (by omega) ih
theorem lawLv_bd : ∀ (k : Nat) (d : PyData) (l : List Int), lawLv k d = some l → l.length ≤ 12 → Wn 12 d ∧ Bd k d
  | k, .int i, l, _, _ => ⟨.int i, .int i⟩
  | k + 1, .tuple ds, l, h, hl => by
    unfold lawLv at h
    split at h
    · rename_i hds2
      split at h
      · cases h
      · rename_i found least e
        split at h
        · cases h
          obtain ⟨ls, h4, h5⟩ := lawLoop_some.mp e
          cases h5
          rw [List.nil_append] at hl
          have hne : ∀ x ∈ ls, x ≠ [] := fun x hx => let ⟨d, _, e⟩ := some_mem h4 x hx; lawLv_ne k d x e
          have hlen : ds.length = ls.length := by rw [← List.length_map (as := ds) (lawLv k), h4, List.length_map]
          have h6 := len_flat hne
          have each : ∀ d ∈ ds, Wn 12 d ∧ Bd k d := fun d hd => by
            have z : lawLv k d ∈ ls.map some := by rw [← h4]; exact List.mem_map_of_mem hd
            obtain ⟨x, hx, ex⟩ := List.mem_map.mp z
            exact lawLv_bd k d x ex.symm (Nat.le_trans (sub_flat hx).length_le hl)
          exact ⟨.tup (by omega) (by omega) fun d hd => (each d hd).1, Bd.tup.mpr fun d hd => (each d hd).2⟩
        · cases h
    · cases h
  | 0, .tuple _, l, h, _ => by simp [lawLv] at h
  | 0, .none, l, h, _ => by simp [lawLv] at h
  | 0, .bool _, l, h, _ => by simp [lawLv] at h
  | 0, .str _, l, h, _ => by simp [lawLv] at h
  | 0, .list _, l, h, _ => by simp [lawLv] at h
  | 0, .dict _, l, h, _ => by simp [lawLv] at h
  | k + 1, .none, l, h, _ => by simp [lawLv] at h
  | k + 1, .bool _, l, h, _ => by simp [lawLv] at h
  | k + 1, .str _, l, h, _ => by simp [lawLv] at h
  | k + 1, .list _, l, h, _ => by simp [lawLv] at h
  | k + 1, .dict _, l, h, _ => by simp [lawLv] at h
/-- a wood of n leaves -/
structure Wood (n : Nat) (d : PyData) : Prop where
  ex : ∃ ds, d = .tuple ds
  p : progSize d = n
  l : lawSize d = n
  w : Wn 12 d
  b : Bd 12 d
theorem FI.wood {n : Nat} {dom : List Int} {f : Int → PyData} {L : Int → List Int} (F : FI n dom f L) (h1 : 1 ≤ n) (h2 : n ≤ 12) : Wood n (.tuple (dom.map f)) := by
  have hlen := F.pm.length_eq
  rw [dom0_len] at hlen
  have each : ∀ d ∈ dom.map f, Wn 12 d ∧ Bd 11 d := fun d hd => by
    obtain ⟨x, hx, rfl⟩ := List.mem_map.mp hd
    obtain ⟨⟨m, h3, h4⟩, _⟩ := F.el x hx
    have h5 : (L x).length ≤ n := by
      rw [← hlen, List.flatMap_def]
      exact (sub_flat (List.mem_map_of_mem hx)).length_le
    exact lawLv_bd 11 (f x) (L x) (h3 11 (by omega)) (by omega)
  have hd1 : 1 ≤ dom.length := by
    by_cases z : dom = []
    · rw [z] at hlen
      simp at hlen
      omega
    · exact List.length_pos_iff.mpr z
  have hd : dom.length ≤ 12 := by
    have z := len_flat (ls := dom.map L) fun l hl => by
      obtain ⟨x, hx, rfl⟩ := List.mem_map.mp hl
      intro e
      have := (F.el x hx).2.1
      rw [e] at this
      cases this
    rw [List.length_map, ← List.flatMap_def] at z
    omega
  exact ⟨⟨_, rfl⟩, F.psize h1 h2, F.size h1 h2, .tup (by rw [List.length_map]; exact hd1) (by rw [List.length_map]; exact hd) fun d hd => (each d hd).1, Bd.tup.mpr fun d hd => (each d hd).2⟩
theorem tree_wood {born : List Int} {ps : List (List Int)} {rows : List (List (List Int))} (h : TreeOk born 0 (fun _ => False) ps rows) (h1 : 1 ≤ born.length) (h2 : born.length ≤ 12) :
    Wood born.length (woodOf (forest (dom0 born.length, PyData.int) rows.flatten)) := by
  obtain ⟨L, F⟩ := forest_FI (n := born.length) (s := (dom0 born.length, PyData.int)) (by omega) (tree_joins0 h) (FI.init _)
  exact F.wood h1 h2
/-- what is left behind a joint -/
theorem left_join {left rest g left' : List Int} {g0 : Int} {gt : List Int} (hg : g = g0 :: gt) (hasc : left.Pairwise (· < ·)) (hgasc : g.Pairwise (· < ·)) (hp : (g ++ rest).Perm left) (hs : left'.Pairwise (· ≤ ·)) (hl : left'.Perm (rest ++ [g0])) : left' = joinD left g := by
  have hnd : (g ++ rest).Nodup := hp.nodup_iff.mpr (asc_nodup hasc)
  subst hg
  rw [List.cons_append, List.nodup_cons, List.nodup_append] at hnd
  obtain ⟨n1, n2, n3, n4⟩ := hnd
  have hnd' : (rest ++ [g0]).Nodup := List.nodup_append.mpr ⟨n3, by simp, fun a ha b hb z => by
    rw [List.mem_singleton] at hb
    subst hb
    subst z
    exact n1 (List.mem_append.mpr (.inr ha))⟩
  have hjn : (joinD left (g0 :: gt)).Nodup := (asc_nodup hasc).filter _
  have hperm : left'.Perm (joinD left (g0 :: gt)) := hl.trans ((List.perm_ext_iff_of_nodup hnd' hjn).mpr fun x => by
    rw [joinD_mem, ← hp.mem_iff, List.mem_append, List.mem_singleton, List.cons_append, List.mem_cons, List.mem_append, List.tail_cons]
    constructor
    · rintro (h | h)
      · exact ⟨.inr (.inr h), fun z => n4 x z x h rfl⟩
      · subst h
        exact ⟨.inl rfl, fun z => n1 (List.mem_append.mpr (.inl z))⟩
    · rintro ⟨h | h | h, h2⟩
      · exact .inr h
      · exact absurd h h2
      · exact .inl h)
  exact hperm.eq_of_pairwise (fun x y _ _ h1 h2 => by omega) hs (lt_le (hasc.sublist List.filter_sublist))
end G93

set_option Elab.async false
set_option linter.all false
set_option maxRecDepth 100000
set_option maxHeartbeats 8000000
/-! a drawn wood -/
namespace G93
open PySem PySem.Spec PyProof.Rows L2
local macro_rules | `(tactic| trivial) => `(tactic| (repeat (first | refine ⟨_, rfl, ?_⟩ | refine ⟨_, _, rfl, rfl, ?_⟩ | refine .inl ⟨_, rfl, ?_⟩ | refine ⟨_, _, rfl, ?_⟩)))
abbrev s_law_wood : Stmt := top 43
theorem sc_law_wood : FnScope ["_law_source", "_law_n", "_law_most", "_law_left", "_law_parts", "_law_x", "_law_turn", "_law_some", "_law_rest", "_law_k", "_law_joint"] ["_law_source", "_law_n", "_law_most"] (defScope s_law_wood) := ⟨rfl, rfl, rfl, by decide +kernel, rfl, by decide +kernel, by decide +kernel⟩
def spWood : Sp := fun vs H Q _ => ∃ (s : Addr) (n : Nat), vs = [.ref s, .int n, .int 5] ∧ Src H s ∧ 1 ≤ n ∧ n ≤ 12 ∧ ∀ r d H', Src H' s → Kp s H H' → Tp H' (.ref r) d → Wood n d → Q (.ref r) H'
section
variable {P : Program} {w : World} {K : PySem.W.Frag} {mg : Str → Option Value} {base : Heap} {f : Addr} {fd : FuncData}
theorem ok_wood (F : Fun K "_law_wood" "_law_wood" s_law_wood f fd) (B : Bi mg) (C_law_take : Cal P w K mg base CX0 1 "_law_take" ["_law_source", "_law_top"] spTake) (C_law_one : Cal P w K mg base CX0 2 "_law_one" ["_law_source", "_law_things"] (spOne K)) :
    FnOk P w K mg base CX0 3 f fd ["_law_source", "_law_n", "_law_most"] spWood := by
  refine F.ok sc_law_wood (fun vs H Q E h => ?_) (fun cdv A outer s H vs Q E hr h => ?_)
  · obtain ⟨_, _, rfl, _⟩ := h
    rfl
  obtain ⟨s, n, rfl, hS, hn1, hn12, q⟩ := h
  refine ⟨_, (pss_cons (ps_setLc (i := 3) (own := [("_law_x", 5)]) rfl sc_law_wood.nd rfl rfl (sw_true rfl rfl rfl (by decide +kernel)) (pi_range1 (by rfl) B.range_ (pa_cons (pv 1) pa_nil)) (blkOk_by (own := [("_law_x", 5)]) (N := ["_law_source", "_law_n", "_law_most", "_law_left", "_law_parts", "_law_x", "_law_turn", "_law_some", "_law_rest", "_law_k", "_law_joint"]) (sc := defScope s_law_wood) (by decide +kernel)) (fun _ _ _ _ _ => (pg_name (i := 5) sc_law_wood.nd rfl (Or.inl rfl))) (fun _ _ _ _ _ => pts_nil) (fun _ _ _ _ _ => (pv 5)))
      (pss_cons (ps_set (i := 4) sc_law_wood.nd rfl (Or.inr rfl) pe_dnewK)
      (pss_cons (ps_for PassesOwn.never rfl (pi_list (pv 3)) (pg_name (i := 5) sc_law_wood.nd rfl (Or.inl rfl))
        (pss_one (ps_dput (hu_of hr) (pv 4) (pv 5) (pv 5) rfl)))
      (pss_cons (ps_for PassesOwn.never rfl (pi_range1 (by rfl) B.range_ (pa_cons (pe_callC C_law_one (hr.mono (by decide)) (by rfl) pass0 (pa_cons (pv 0) (pa_cons (pe_lst (pa_cons (pv 1) (pa_cons (pv 1) (pa_cons (pe_callC C_law_take (hr.mono (by decide)) (by rfl) pass0 (pa_cons (pv 0) (pa_cons (pv 1) pa_nil))) pa_nil)))) pa_nil))) pa_nil)) (pg_name (i := 6) sc_law_wood.nd rfl (Or.inl rfl))
        (pss_one (ps_if (pt_cmpR op_gt (pe_callB call_len_seq (by rfl) B.len_ (by decide +kernel) (pa_cons (pv 3) pa_nil)) pe_int (nomark _))
          (pss_cons (ps_par (i := 7) (j := 8) rfl sc_law_wood.nd rfl rfl (by decide) rfl rfl (pa_cons (pe_lst pa_nil) (pa_cons (pe_lc (own := [("_law_x", 5)]) rfl sc_law_wood.nd (pi_list (pv 3)) (blkOk_by (own := [("_law_x", 5)]) (N := ["_law_source", "_law_n", "_law_most", "_law_left", "_law_parts", "_law_x", "_law_turn", "_law_some", "_law_rest", "_law_k", "_law_joint"]) (sc := defScope s_law_wood) (by decide +kernel)) (fun _ _ _ _ _ => (pg_name (i := 5) sc_law_wood.nd rfl (Or.inl rfl))) (fun _ _ _ _ _ => pts_nil) (fun _ _ _ _ _ => (pv 5))) pa_nil)) (by rfl))
          (pss_cons (ps_for PassesOwn.never rfl (pi_range1 (by rfl) B.range_ (pa_cons (pe_callB (call_min2 rfl) (by rfl) B.min_ (by decide +kernel) (pa_cons (pe_callB call_len_seq (by rfl) B.len_ (by decide +kernel) (pa_cons (pv 3) pa_nil)) (pa_cons (pe_callC C_law_one (hr.mono (by decide)) (by rfl) pass0 (pa_cons (pv 0) (pa_cons (pe_lst (pa_cons pe_int (pa_cons pe_int (pa_cons pe_int (pa_cons (pe_op op_add pe_int (pe_callC C_law_take (hr.mono (by decide)) (by rfl) pass0 (pa_cons (pv 0) (pa_cons (pe_op op_sub (pv 2) pe_int) pa_nil)))) pa_nil))))) pa_nil))) pa_nil))) pa_nil)) (pg_name (i := 9) sc_law_wood.nd rfl (Or.inl rfl))
            (pss_one (ps_expr (pe_bm PySem.F.plainAttrs_list PySem.F.slot_list_append PySem.F.type_list_append mt_append (pv 7) (pa_cons (pe_bm PySem.F.plainAttrs_list PySem.F.slot_list_pop PySem.F.type_list_pop mt_popAt (pv 8) (pa_cons (pe_callC C_law_take (hr.mono (by decide)) (by rfl) pass0 (pa_cons (pv 0) (pa_cons (pe_callB call_len_seq (by rfl) B.len_ (by decide +kernel) (pa_cons (pv 8) pa_nil)) pa_nil))) pa_nil)) pa_nil)))))
          (pss_cons (ps_set (i := 7) sc_law_wood.nd rfl (Or.inl rfl) (pe_callB cr_sortedI (by rfl) B.sorted_ (by decide +kernel) (pa_cons (pv 7) pa_nil)))
          (pss_cons (ps_set (i := 10) sc_law_wood.nd rfl (Or.inl rfl) (pe_callTy call_tuple_of (by rfl) B.tuple_ (by decide +kernel) (pa_cons (pe_lc (own := [("_law_x", 5)]) rfl sc_law_wood.nd (pi_list (pv 7)) (blkOk_by (own := [("_law_x", 5)]) (N := ["_law_source", "_law_n", "_law_most", "_law_left", "_law_parts", "_law_x", "_law_turn", "_law_some", "_law_rest", "_law_k", "_law_joint"]) (sc := defScope s_law_wood) (by decide +kernel)) (fun _ _ _ _ _ => (pg_name (i := 5) sc_law_wood.nd rfl (Or.inl rfl))) (fun _ _ _ _ _ => pts_nil) (fun _ _ _ _ _ => (pe_dget (hu_of hr) (pv 4) (pv 5) (fun _ _ => rfl)))) pa_nil)))
          (pss_cons (ps_dput (hu_of hr) (pv 4) (pe_ix ix_list (pv 7) pe_int (fun _ _ => rfl)) (pv 10) rfl)
          (pss_one (ps_set (i := 3) sc_law_wood.nd rfl (Or.inl rfl) (pe_callB cr_sortedI (by rfl) B.sorted_ (by decide +kernel) (pa_cons (pe_op op_cat (pv 8) (pe_slice sl_list (pv 7) po_none (po_some pe_int))) pa_nil)))))))))
          pss_nil)))
      (pss_one (ps_ret (pe_callTy call_tuple_of (by rfl) B.tuple_ (by decide +kernel) (pa_cons (pe_lc (own := [("_law_x", 5)]) rfl sc_law_wood.nd (pi_list (pv 3)) (blkOk_by (own := [("_law_x", 5)]) (N := ["_law_source", "_law_n", "_law_most", "_law_left", "_law_parts", "_law_x", "_law_turn", "_law_some", "_law_rest", "_law_k", "_law_joint"]) (sc := defScope s_law_wood) (by decide +kernel)) (fun _ _ _ _ _ => (pg_name (i := 5) sc_law_wood.nd rfl (Or.inl rfl))) (fun _ _ _ _ _ => pts_nil) (fun _ _ _ _ _ => (pe_dget (hu_of hr) (pv 4) (pv 5) (fun _ _ => rfl)))) pa_nil))))))))
   , ?_⟩
  trivial
  refine ⟨by omega, by omega, fun la hla => ?_⟩
  rw [Int.toNat_natCast]
  refine lcm_range (n := n) (fun i => some (V.int (0 + (i : Nat)))) hla (small_ (by omega)) (fun i Hx hi ex Y N y nn => ?_) (fun Ha ea hla1 => ?_)
  · refine ⟨rfl, ?_⟩
    trivial
    exact y _ _ (L2.Same.refl _) rfl
  rw [fm_dom] at hla1
  have hSa := hS.same ea
  trivial
  intro D hD
  have e1 := L2.Same.of_new hD (.dK [])
  have hDs : D ≠ s := hSa.ne' hD
  have hlas : la ≠ s := hS.ne' hla
  have hla2 := e1 _ _ hla1
  have hDH : H D = none := ea.free hD
  trivial
  refine ⟨⟨_, .of hla2⟩, ?_⟩
  refine for_list (xs := (dom0 n).map V.int) (fun i σ H1 => ∃ u, σ = [some (.ref s), some (.int n), some (.int 5), some (.ref la), some (.ref D), u, none, none, none, none, none] ∧ Same Ha H1 ∧ ∃ kvs, H1 D = some (.dK kvs) ∧ DG (RT H1 PyData.int) kvs (fun x => x ∈ dom0 i)) ⟨_, rfl, e1, [], upd_same, DG.start⟩ (fun i σ H1 hi h => ?_) (fun i x σ H1 hx h => ?_) (fun σ H1 h => ?_)
  · obtain ⟨_, rfl, e, _⟩ := h
    exact .of (e _ _ hla1)
  · obtain ⟨_, rfl, e, kvs, hd, hdg⟩ := h
    obtain ⟨k, hk, rfl⟩ := get_map hx
    have hki : k = (i : Int) := by
      unfold dom0 at hk
      rw [List.getElem?_map] at hk
      obtain ⟨j, hj, rfl⟩ := Option.map_eq_some_iff.mp hk
      obtain ⟨h1, h2⟩ := List.getElem?_eq_some_iff.mp hj
      rw [List.getElem_range] at h2
      rw [← h2]
      rfl
    have hi : i < n := by have := (List.getElem?_eq_some_iff.mp hk).1; rw [dom0_len] at this; exact this
    subst hki
    trivial
    have hz : kvs.length ≤ i := hdg.len fun x hx => hx
    refine ⟨D, _, rfl, DPut.k (k := Sum.inl (i : Int)) hd (small_lt (by omega)), ?_⟩
    exact ⟨_, rfl, e.set hD _, _, upd_same, hdg.step (TS.updD hd _)⟩
  · obtain ⟨x5, rfl, e, kvs, hd, hdg⟩ := h
    rw [List.length_map, dom0_len] at hdg
    have hSb := hSa.same e
    have kb := (ea.trans e).kp (s := s)
    trivial
    refine ⟨hSb, by omega, by omega, fun r0 H2 r00 r01 hS2 k2 => ?_⟩
    refine ⟨(by show 3 ≤ sizeLine; decide), fun l0 hl0 => ?_⟩
    have e3 := L2.Same.of_new hl0 (.lst [.int n, .int n, .int r0])
    refine ⟨s, l0, _, rfl, hS2.same e3, hS2.ne' hl0, upd_same, by show 0 < 3; decide, by show 3 < 1073741824; decide, fun i v H3 hv hS3 k3 => ?_⟩
    obtain ⟨tn, rfl, ht0, ht1⟩ : ∃ tn : Int, v = .int tn ∧ 0 ≤ tn ∧ tn ≤ 12 := by
      have hm := List.mem_of_getElem? hv
      simp only [List.mem_cons, List.not_mem_nil, or_false] at hm
      rcases hm with z | z | z
      · exact ⟨_, z, by omega, by omega⟩
      · exact ⟨_, z, by omega, by omega⟩
      · exact ⟨_, z, by omega, by omega⟩
    trivial
    refine ⟨by omega, by omega, ?_⟩
    have k23 := k2.trans (e3.kp.trans k3)
    have ts23 : TS H1 H3 := hSb.ts k23
    refine for_range (n := tn.toNat) (fun t σ H4 => ∃ (lf : Addr) (y5 u6 u7 u8 u9 u10 : Option V) (left : List Int) (g : Int → PyData) (L : Int → List Int) (kvs : List (Key × V)), σ = [some (.ref s), some (.int n), some (.int 5), some (.ref lf), some (.ref D), y5, u6, u7, u8, u9, u10] ∧ Src H4 s ∧ Kp s H H4 ∧ H4 lf = some (.lst (left.map V.int)) ∧ lf ≠ s ∧ H4 D = some (.dK kvs) ∧ DG (RT H4 g) kvs (fun x => x ∈ dom0 n) ∧ FI n left g L ∧ (∀ x ∈ left, x ∈ dom0 n))
      ⟨la, _, _, _, _, _, _, dom0 n, PyData.int, fun x => [x], kvs, rfl, hS3, kb.trans k23, k23 _ _ hlas (e _ _ hla1), hlas, k23 _ _ hDs hd, hdg.ts ts23, FI.init n, fun x hx => hx⟩ (fun t σ H4 ht h => ?_) (fun σ H4 h => ?_)
    · obtain ⟨lf, y5, u6, u7, u8, u9, u10, left, g, L, kvs, rfl, hS4, k4, hlf, hlfs, hd, hdg, hF, hsub⟩ := h
      have hll : left.length ≤ n := sub_len (asc_nodup hF.asc) hsub
      trivial
      refine ⟨lf, _, rfl, .inl (.of hlf), ?_⟩
      trivial
      rw [List.length_map]
      by_cases hgt : 1 < left.length
      · rw [decide_eq_true (show (1 : Int) < (left.length : Nat) by omega)]
        refine iteT ?_
        refine ⟨(by show 0 ≤ sizeLine; decide), fun so hso => ?_⟩
        have e5 := L2.Same.of_new hso (.lst [])
        trivial
        refine ⟨⟨_, .of (e5 _ _ hlf)⟩, fun rl hrl => lcm_list (xs := left.map V.int) (fun v => some v) hrl (.of (e5 _ _ hlf)) (small_ (by rw [List.length_map]; omega)) (fun k x Hx hk ex Y N y nn => ?_) (fun H5 e6 hrl5 => ?_)⟩
        · refine ⟨rfl, ?_⟩
          trivial
          exact y _ _ (L2.Same.refl _) rfl
        rw [fm_id] at hrl5
        have hso5 := e6 _ _ (upd_same (H := H4) (a := so) (o := .lst []))
        have e56 := e5.trans e6
        have hS5 := hS4.same e56
        have k5 := k4.trans e56.kp
        have hsos : so ≠ s := hS4.ne' hso
        have hrls : rl ≠ s := (hS4.same e5).ne' hrl
        have hsoH := k4.free hsos hso
        have hrlH := (k4.trans e5.kp).free hrls hrl
        have hsr : so ≠ rl := ne_of_none (upd_same (H := H4)) hrl
        have hlf5 := e56 _ _ hlf
        have hd5 := e56 _ _ hd
        have hdg5 := hdg.ts e56.ts
        trivial
        refine ⟨lf, _, rfl, .inl (.of hlf5), ?_⟩
        trivial
        refine ⟨hS5, by decide, by decide, fun r1 H6 r10 r11 hS6 k6 => ?_⟩
        trivial
        refine ⟨(by show 4 ≤ sizeLine; decide), fun l9 hl9 => ?_⟩
        have e9 := L2.Same.of_new hl9 (.lst [.int 2, .int 2, .int 2, .int (2 + r1)])
        refine ⟨s, l9, _, rfl, hS6.same e9, hS6.ne' hl9, upd_same, by show 0 < 4; decide, by show 4 < 1073741824; decide, fun i v H7 hv hS7 k7 => ?_⟩
        obtain ⟨m9, rfl, hm9⟩ : ∃ m9 : Int, v = .int m9 ∧ 2 ≤ m9 := by
          have hm := List.mem_of_getElem? hv
          simp only [List.mem_cons, List.not_mem_nil, or_false] at hm
          rcases hm with z | z | z | z
          · exact ⟨_, z, by decide⟩
          · exact ⟨_, z, by decide⟩
          · exact ⟨_, z, by decide⟩
          · exact ⟨_, z, by omega⟩
        trivial
        rw [List.length_map]
        obtain ⟨c, hc⟩ : ∃ c : Int, c = (if m9 < (left.length : Int) then m9 else (left.length : Int)) := ⟨_, rfl⟩
        have hc2 : 2 ≤ c ∧ c ≤ left.length := by rw [hc]; split <;> omega
        rw [← hc]
        have k57 := k6.trans (e9.kp.trans k7)
        have hlf7 := k57 _ _ hlfs hlf5
        have hd7 := k57 _ _ hDs hd5
        have hso7 := k57 _ _ hsos hso5
        have hrl7 := k57 _ _ hrls hrl5
        have hdg7 := hdg5.ts (hS5.ts k57)
        have hls : lf ≠ so := ne_of_none hlf hso
        have hlr : lf ≠ rl := ne_of_none (e5 _ _ hlf) hrl
        have hDso : D ≠ so := ne_of_none hd hso
        have hDrl : D ≠ rl := ne_of_none (e5 _ _ hd) hrl
        refine ⟨by omega, by omega, ?_⟩
        refine for_range (n := c.toNat) (fun m σ H8 => ∃ (u9 : Option V) (gp rest2 : List Int), σ = [some (.ref s), some (.int n), some (.int 5), some (.ref lf), some (.ref D), y5, some (.int (0 + (t : Int))), some (.ref so), some (.ref rl), u9, u10] ∧ Src H8 s ∧ Kp s H H8 ∧ TS H7 H8 ∧ H8 lf = some (.lst (left.map V.int)) ∧ H8 D = some (.dK kvs) ∧ H8 rl = some (.lst (rest2.map V.int)) ∧ H8 so = some (.lst (gp.map V.int)) ∧ gp.length = m ∧ (gp ++ rest2).Perm left)
          ⟨_, [], left, rfl, hS7, k5.trans k57, TS.refl _, hlf7, hd7, hrl7, hso7, rfl, .refl _⟩ (fun m σ H8 hm h => ?_) (fun σ H8 h => ?_)
        · obtain ⟨u9, gp, rest2, rfl, hS8, k8, t8, hlf8, hd8, hrl8, hso8, hgp, hperm8⟩ := h
          have hl8 := hperm8.length_eq
          rw [List.length_append] at hl8
          have hpos : 0 < rest2.length := by omega
          trivial
          refine ⟨.inl ⟨rfl, _, .of hso8⟩, ?_⟩
          trivial
          refine ⟨.inl ⟨rfl, _, .of hrl8⟩, ?_⟩
          trivial
          refine ⟨rl, _, rfl, .inl (.of hrl8), ?_⟩
          rw [List.length_map]
          refine ⟨s, rest2.length, rfl, hS8, by omega, by omega, fun rr H9 rr0 rr1 hS9 k9 => ?_⟩
          obtain ⟨idx, rfl⟩ := Int.eq_ofNat_of_zero_le rr0
          have hidx : idx < rest2.length := by omega
          have hrl9 := k9 _ _ hrls hrl8
          have hso9 := k9 _ _ hsos hso8
          have hget : rest2[idx]? = some rest2[idx] := List.getElem?_eq_getElem hidx
          refine ⟨rl, _, _, idx, .int rest2[idx], rfl, rfl, hrl9, by omega, by omega, by rw [List.length_map]; exact seqIndex_of (by omega) (by omega), by rw [List.getElem?_map, hget]; rfl, ?_⟩
          have hso10 : upd H9 rl (.lst ((rest2.map V.int).eraseIdx idx)) so = some (.lst (gp.map V.int)) := by rw [upd_ne hsr]; exact hso9
          refine ⟨so, _, _, rfl, rfl, hso10, small_lt (by rw [List.length_map]; omega), ?_⟩
          have t9 := (hS8.ts k9).trans ((TS.updL hrl9 (.lst ((rest2.map V.int).eraseIdx idx))).trans (TS.updL hso10 (.lst (gp.map V.int ++ [.int rest2[idx]]))))
          refine ⟨_, gp ++ [rest2[idx]], rest2.eraseIdx idx, rfl, (hS9.up (Ne.symm hrls)).up (Ne.symm hsos), ((k8.trans k9).set hrlH _).set hsoH _, t8.trans t9, ?_, ?_, ?_, ?_, ?_, ?_⟩
          · rw [upd_ne hls, upd_ne hlr]
            exact k9 _ _ hlfs hlf8
          · rw [upd_ne hDso, upd_ne hDrl]
            exact k9 _ _ hDs hd8
          · rw [upd_ne hsr.symm, upd_same, erase_map]
          · rw [upd_same, List.map_append]
            rfl
          · rw [List.length_append, hgp]
            rfl
          · refine .trans ?_ hperm8
            rw [List.append_assoc]
            exact .append_left _ (erase_perm hget).symm
        · obtain ⟨u9, gp, rest2, rfl, hS8, k8, t8, hlf8, hd8, hrl8, hso8, hgp, hperm8⟩ := h
          have hl8 := hperm8.length_eq
          rw [List.length_append] at hl8
          have hgnd : gp.Nodup := (List.nodup_append.mp (hperm8.nodup_iff.mpr (asc_nodup hF.asc))).1
          trivial
          refine ⟨so, gp, rfl, .of hso8, fun G s2 hGp hGs hs2n => ?_⟩
          have hGasc : G.Pairwise (· < ·) := le_lt hGs (hGp.nodup_iff.mpr hgnd)
          have hGlen : G.length = c.toNat := by rw [hGp.length_eq, hgp]
          have hGsub : ∀ x ∈ G, x ∈ left := fun x hx => hperm8.mem_iff.mp (List.mem_append.mpr (.inl (hGp.mem_iff.mp hx)))
          have hGO : GOk left G := ⟨hGasc, by omega, hGsub⟩
          have e10 := L2.Same.of_new hs2n (.lst (G.map V.int))
          have hs2 := upd_same (H := H8) (a := s2) (o := .lst (G.map V.int))
          have hd10 := e10 _ _ hd8
          have hdg10 := hdg7.ts (t8.trans e10.ts)
          trivial
          refine ⟨⟨_, .of hs2⟩, fun D5 hD5 => lcm_list (xs := G.map V.int) (look kvs) hD5 (.of hs2) (small_ (by rw [List.length_map]; omega)) (fun k x Hx hx ex Y N yy nn => ?_) (fun H11 e11 hD6 => ?_)⟩
          · obtain ⟨k, hk, rfl⟩ := get_map hx
            obtain ⟨v, ev, _⟩ := hdg10.bw k (hsub k (hGsub k (List.mem_of_getElem? hk)))
            refine ⟨rfl, ?_⟩
            trivial
            refine ⟨D, v, rfl, (by have z := DGet.k (k := Sum.inl k) (ex _ _ hd10); rw [ev] at z; exact z), ?_⟩
            exact yy _ _ (L2.Same.refl _) ev
          · refine ⟨D5, _, rfl, .inl ⟨.of hD6, fun t1 ht1 => ?_⟩⟩
            have e12 := e11.put ht1 (.tup ((G.map V.int).filterMap (look kvs)))
            trivial
            obtain ⟨a, b, rr, hGe⟩ := head_tail hGO.two
            have hs12 := e12 _ _ hs2
            have hd12 := e12 _ _ hd10
            have hdg12 := hdg10.ts e12.ts
            have tj : Tp (upd H11 t1 (.tup ((G.map V.int).filterMap (look kvs)))) (.ref t1) (.tuple (G.map g)) := Tps.mk' upd_same ((hdg10.looks (g := G) fun x hx => hsub x (hGsub x hx)).mono e12.ts)
            refine ⟨s2, _, _, _, rfl, rfl, .of hs12, (show atI (List.map V.int G) ((0 : Nat) : Int) = some (.int (G.headD 0)) from atI_nat (by rw [hGe]; rfl)), ?_⟩
            have hkl := hdg12.len fun x hx => hx
            refine ⟨D, _, rfl, DPut.k (k := Sum.inl (G.headD 0)) hd12 (small_lt (by omega)), ?_⟩
            have tsU := TS.updD hd12 (.dK (putK kvs (Sum.inl (G.headD 0)) (.ref t1)))
            have hg0 : G.headD 0 ∈ left := hGsub _ (by rw [hGe]; exact List.mem_cons_self)
            have hdg13 : DG (RT (upd (upd H11 t1 (.tup ((G.map V.int).filterMap (look kvs)))) D (.dK (putK kvs (Sum.inl (G.headD 0)) (.ref t1)))) (joinF g G)) (putK kvs (Sum.inl (G.headD 0)) (.ref t1)) (fun x => x ∈ dom0 n) := by
              refine (hdg12.put (x := G.headD 0) (v := .ref t1) (R' := RT (upd (upd H11 t1 (.tup ((G.map V.int).filterMap (look kvs)))) D (.dK (putK kvs (Sum.inl (G.headD 0)) (.ref t1)))) (joinF g G)) ?_ fun y u hy hne ru => ?_).congr fun x => ?_
              · show Tp _ (.ref t1) (joinF g G (G.headD 0))
                unfold joinF
                rw [if_pos rfl]
                exact tj.mono tsU
              · show Tp _ u (joinF g G y)
                unfold joinF
                rw [if_neg hne]
                exact Tp.mono tsU ru
              · exact ⟨fun h => h.elim id fun z => by rw [z]; exact hsub _ hg0, .inl⟩
            have e8D := e10.trans e12
            have hs2s : s2 ≠ s := hS8.ne' hs2n
            have hDs2 : D ≠ s2 := ne_of_none hd8 hs2n
            have hrl13 : (upd (upd H11 t1 (.tup ((G.map V.int).filterMap (look kvs)))) D (.dK (putK kvs (Sum.inl (G.headD 0)) (.ref t1)))) rl = some (.lst (rest2.map V.int)) := by
              rw [upd_ne hDrl.symm]
              exact e8D _ _ hrl8
            have hs13 : (upd (upd H11 t1 (.tup ((G.map V.int).filterMap (look kvs)))) D (.dK (putK kvs (Sum.inl (G.headD 0)) (.ref t1)))) s2 = some (.lst (G.map V.int)) := by
              rw [upd_ne hDs2.symm]
              exact hs12
            have hS13 := (hS8.same e8D).up (o := .dK (putK kvs (Sum.inl (G.headD 0)) (.ref t1))) (Ne.symm hDs)
            have k13 := (k8.trans e8D.kp).set hDH (.dK (putK kvs (Sum.inl (G.headD 0)) (.ref t1)))
            have hd13 := upd_same (H := upd H11 t1 (.tup ((G.map V.int).filterMap (look kvs)))) (a := D) (o := .dK (putK kvs (Sum.inl (G.headD 0)) (.ref t1)))
            generalize hH13 : upd (upd H11 t1 (.tup ((G.map V.int).filterMap (look kvs)))) D (.dK (putK kvs (Sum.inl (G.headD 0)) (.ref t1))) = H13 at *
            trivial
            refine ⟨s2, _, rfl, .of hs13, fun c1 hc1 => ?_⟩
            have hcut : cutV (G.map V.int) none (some 1) = [V.int (G.headD 0)] := by
              have z := cut_to (xs := G.map V.int) (i := 1) (by rw [List.length_map]; omega)
              rw [show (some (1 : Int)) = some ((1 : Nat) : Int) from rfl, z, hGe]
              rfl
            rw [hcut]
            have e14 := L2.Same.of_new hc1 (.lst [V.int (G.headD 0)])
            refine ⟨rl, c1, _, _, rfl, rfl, e14 _ _ hrl13, upd_same, small_ (by rw [List.length_map, List.length_singleton]; omega), fun c2 hc2n => ?_⟩
            have e15 := e14.put hc2n (.lst (rest2.map V.int ++ [V.int (G.headD 0)]))
            refine ⟨c2, rest2 ++ [G.headD 0], rfl, .of (by rw [upd_same, List.map_append]; rfl), fun left' lf' hlp hls' hlfn => ?_⟩
            have e16 := e15.put hlfn (.lst (left'.map V.int))
            have hjoin : left' = joinD left G := left_join (g0 := G.headD 0) (gt := G.tail) (by rw [hGe]; rfl) hF.asc hGasc ((List.Perm.append_right _ hGp).trans hperm8) hls' hlp
            have hF' := hF.join (by omega) hGO
            rw [← hjoin] at hF'
            refine ⟨lf', _, _, _, _, _, _, left', joinF g G, _, _, rfl, hS13.same e16, k13.trans e16.kp, upd_same, (hS13.same e15).ne' hlfn, e16 _ _ hd13, hdg13.ts e16.ts, hF', fun x hx => ?_⟩
            rw [hjoin, joinD_mem] at hx
            exact hsub x hx.1
      · rw [decide_eq_false (show ¬ (1 : Int) < (left.length : Nat) by omega)]
        refine iteF ?_
        exact ⟨lf, _, _, _, _, _, _, left, g, L, kvs, rfl, hS4, k4, hlf, hlfs, hd, hdg, hF, hsub⟩
    · obtain ⟨lf, y5, u6, u7, u8, u9, u10, left, g, L, kvs, rfl, hS4, k4, hlf, hlfs, hd, hdg, hF, hsub⟩ := h
      have hll : left.length ≤ n := sub_len (asc_nodup hF.asc) hsub
      trivial
      refine ⟨⟨_, .of hlf⟩, fun D2 hD2 => lcm_list (xs := left.map V.int) (look kvs) hD2 (.of hlf) (small_ (by rw [List.length_map]; omega)) (fun k x Hx hx ex Y N yy nn => ?_) (fun Hx ex hD3 => ?_)⟩
      · obtain ⟨k, hk, rfl⟩ := get_map hx
        obtain ⟨v, ev, _⟩ := hdg.bw k (hsub k (List.mem_of_getElem? hk))
        refine ⟨rfl, ?_⟩
        trivial
        refine ⟨D, v, rfl, (by have z := DGet.k (k := Sum.inl k) (ex _ _ hd); rw [ev] at z; exact z), ?_⟩
        exact yy _ _ (L2.Same.refl _) ev
      · refine ⟨D2, _, rfl, .inl ⟨.of hD3, fun t1 ht1 => ?_⟩⟩
        have e5 := ex.put ht1 (.tup ((left.map V.int).filterMap (look kvs)))
        exact q t1 _ _ (hS4.same e5) (k4.trans e5.kp) (Tps.mk' upd_same ((hdg.looks (g := left) hsub).mono e5.ts)) (hF.wood hn1 hn12)
end
end G93

set_option Elab.async false
set_option linter.all false
set_option maxRecDepth 100000
set_option maxHeartbeats 8000000
/-! a bent wood -/
namespace G93
open PySem PySem.Spec PyProof.Rows L2
local macro_rules | `(tactic| trivial) => `(tactic| (repeat (first | refine ⟨_, rfl, ?_⟩ | refine ⟨_, _, rfl, rfl, ?_⟩ | refine .inl ⟨_, rfl, ?_⟩ | refine ⟨_, _, rfl, ?_⟩)))
abbrev s_law_bent : Stmt := top 46
theorem sc_law_bent : FnScope ["_law_source", "_law_thing", "_law_n", "_law_ends", "_law_k"] ["_law_source", "_law_thing", "_law_n"] (defScope s_law_bent) := ⟨rfl, rfl, rfl, by decide +kernel, rfl, by decide +kernel, by decide +kernel⟩
theorem nw_to {n k : Nat} (h : k < n) : ¬ (HT.sIx n 0 none = 0 ∧ HT.sIx n n (some (k : Int)) = n) := fun z => by
  have := z.2
  rw [HT.sIx_nat] at this
  omega
theorem nw_from {n k : Nat} (h : 0 < k) (h2 : 0 < n) : ¬ (HT.sIx n 0 (some (k : Int)) = 0 ∧ HT.sIx n n none = n) := fun z => by
  have := z.1
  rw [HT.sIx_nat] at this
  omega
theorem nw_but {n : Nat} (h : 0 < n) : ¬ (HT.sIx n 0 none = 0 ∧ HT.sIx n n (some (-1)) = n) := fun z => by
  have h2 : HT.sIx n n (some (-1)) = n := z.2
  have e : HT.sIx n n (some (-1)) = n - 1 := by
    show (if (-1 : Int) < 0 then ((-1 : Int) + (n : Int)).toNat else min (-1 : Int).toNat n) = n - 1
    rw [if_pos (show (-1 : Int) < 0 by decide)]
    omega
  omega
/-- one of the ends -/
def EndOk (H : Hp) (k : Nat) (v : V) : Prop := ∃ d, Tp H v d ∧ Wd 13 d ∧ Bd (k + 2) d
theorem EndOk.mono {H H' : Hp} {k : Nat} {v : V} (e : TS H H') (h : EndOk H k v) : EndOk H' k v := let ⟨d, t, w, b⟩ := h; ⟨d, t.mono e, w, b⟩
theorem EndOk.int {H : Hp} {k : Nat} (i : Int) : EndOk H k (.int i) := ⟨.int i, .int i, .int i, .int i⟩
theorem EndOk.tup {H : Hp} {k : Nat} {a : Addr} {xs : List V} {ds : List PyData} (h : H a = some (.tup xs)) (t : Tps H xs ds) (hl : ds.length ≤ 13) (hw : ∀ d ∈ ds, Wd 13 d) (hb : ∀ d ∈ ds, Bd (k + 1) d) : EndOk H k (.ref a) :=
  ⟨.tuple ds, Tps.mk' h t, .tup hl hw, Bd.tup.mpr hb⟩
def spBent (m : Nat) : Sp := fun vs H Q _ => ∃ (s : Addr) (v : V) (d : PyData) (n k : Nat), vs = [.ref s, v, .int n] ∧ Src H s ∧ 1 ≤ n ∧ n ≤ 12 ∧ Tp H v d ∧ Wn 12 d ∧ Bd k d ∧ k < m ∧ ∀ r H', Src H' s → Kp s H H' → EndOk H' k r → Q r H'
section
variable {P : Program} {w : World} {K : PySem.W.Frag} {mg : Str → Option Value} {base : Heap} {f : Addr} {fd : FuncData}
theorem ok_bent {m lv : Nat} (hm1 : 1 ≤ lv) (hm2 : 2 ≤ lv) (F : Fun K "_law_bent" "_law_bent" s_law_bent f fd) (B : Bi mg) (C_law_take : Cal P w K mg base CX0 1 "_law_take" ["_law_source", "_law_top"] spTake) (C_law_one : Cal P w K mg base CX0 2 "_law_one" ["_law_source", "_law_things"] (spOne K))
    (C_law_bent : Cal P w K mg base CX0 lv "_law_bent" ["_law_source", "_law_thing", "_law_n"] (spBent m)) : FnOk P w K mg base CX0 (lv + 1) f fd ["_law_source", "_law_thing", "_law_n"] (spBent (m + 1)) := by
  refine F.ok sc_law_bent (fun vs H Q E h => ?_) (fun cdv A outer s H vs Q E hr h => ?_)
  · obtain ⟨_, _, _, _, _, rfl, _⟩ := h
    rfl
  obtain ⟨s, v, d, n, k, rfl, hS, hn1, hn12, t, hW, hB, hk, q⟩ := h
  refine ⟨_, (pss_cons (ps_if (PW.pt (pw_or (pt_val (pe_callB call_isi (by rfl) B.isinstance_ (by decide +kernel) (pa_cons (pv 1) (pa_cons (pe_bltn (v := .ty "int") (by rfl) B.int_ (by decide +kernel) rfl) pa_nil)))) (pw_or1 (pt_cmpR op_eq (pe_callC C_law_take (hr.mono hm1) (by rfl) pass0 (pa_cons (pv 0) (pa_cons pe_int pa_nil))) pe_int (nomark _)))))
        (pss_cons (ps_set (i := 3) sc_law_bent.nd rfl (Or.inl rfl) (pe_lst (pa_cons (pe_tup (pa_cons (pv 1) pa_nil)) (pa_cons (pv 2) (pa_cons (pe_un un_neg pe_int) (pa_cons (pe_callC C_law_take (hr.mono hm1) (by rfl) pass0 (pa_cons (pv 0) (pa_cons (pv 2) pa_nil))) (pa_cons pe_str (pa_cons (pe_tup pa_nil) (pa_cons (pe_tup (pa_cons (pv 1) (pa_cons (pv 1) pa_nil))) (pa_cons (pe_tup (pa_cons (pv 1) (pa_cons (pv 2) pa_nil))) pa_nil))))))))))
        (pss_cons (ps_if (pt_val (pe_callB call_isi (by rfl) B.isinstance_ (by decide +kernel) (pa_cons (pv 1) (pa_cons (pe_bltn (v := .ty "tuple") (by rfl) B.tuple_ (by decide +kernel) rfl) pa_nil))))
          (pss_one (ps_set (i := 3) sc_law_bent.nd rfl (Or.inl rfl) (pe_op op_cat (pe_lst (pa_cons (pe_revT (pv 1)) (pa_cons (pe_slice sl_tupA (pv 1) po_none (po_some (pe_un un_neg pe_int))) (pa_cons (pe_slice sl_tupA (pv 1) (po_some pe_int) po_none) (pa_cons (pe_op op_catA (pv 1) (pe_slice sl_tupA (pv 1) po_none (po_some pe_int))) (pa_cons (pe_op op_catA (pv 1) (pe_tup (pa_cons (pv 2) pa_nil))) (pa_cons (pe_op op_catA (pv 1) (pe_tup (pa_cons (pe_tup (pa_cons (pv 2) (pa_cons (pe_op op_add (pv 2) pe_int) pa_nil))) pa_nil))) pa_nil))))))) (pv 3))))
          pss_nil)
        (pss_one (ps_ret (pe_callC C_law_one (hr.mono hm2) (by rfl) pass0 (pa_cons (pv 0) (pa_cons (pv 3) pa_nil)))))))
        pss_nil)
      (pss_cons (ps_set (i := 4) sc_law_bent.nd rfl (Or.inl rfl) (pe_callC C_law_take (hr.mono hm1) (by rfl) pass0 (pa_cons (pv 0) (pa_cons (pe_callB call_len_seq (by rfl) B.len_ (by decide +kernel) (pa_cons (pv 1) pa_nil)) pa_nil))))
      (pss_one (ps_ret (pe_op op_catA (pe_op op_catA (pe_slice sl_tupA (pv 1) po_none (po_some (pv 4))) (pe_tup (pa_cons (pe_callC C_law_bent hr (by rfl) pass0 (pa_cons (pv 0) (pa_cons (pe_ix ix_tup (pv 1) (pv 4) (fun _ _ => rfl)) (pa_cons (pv 2) pa_nil)))) pa_nil))) (pe_slice sl_tupA (pv 1) (po_some (pe_op op_add (pv 4) pe_int)) po_none))))))
   , ?_⟩
  trivial
  obtain ⟨ty, tx, hkk⟩ := isi_int (K := K) t
  refine ⟨_, _, _, _, _, rfl, .ty _, tx, hkk, ?_⟩
  cases hi : isInt d with
  | true =>
    obtain ⟨i, rfl⟩ : ∃ i, d = .int i := by cases d <;> first | exact ⟨_, rfl⟩ | (simp [isInt] at hi; done)
    trivial
    refine ⟨(by show 1 ≤ sizeLine; decide), fun t1 ht1 => ?_⟩
    trivial
    refine ⟨(hS).new ht1, by omega, by omega, fun rr H5 rr0 rr1 hS5 k5 => ?_⟩
    refine ⟨(by show 0 ≤ sizeLine; decide), fun t2 ht2 => ?_⟩
    trivial
    refine ⟨(by show 2 ≤ sizeLine; decide), fun t3 ht3 => ?_⟩
    trivial
    refine ⟨(by show 2 ≤ sizeLine; decide), fun t4 ht4 => ?_⟩
    refine ⟨(by show 8 ≤ sizeLine; decide), fun l8 hl8 => ?_⟩
    have ts1 := ((hS).new (o := .tup [v]) ht1).ts k5
    have ts0 := (L2.Same.of_new ht1 (.tup [v])).ts.trans ts1
    have h1 := ts1.t _ _ (upd_same (H := H) (a := t1) (o := .tup [v]))
    have h2 := upd_same (H := H5) (a := t2) (o := .tup [])
    have g2 := L2.Same.of_new ht2 (.tup [])
    have h3 := upd_same (H := upd H5 t2 (.tup [])) (a := t3) (o := .tup [v, v])
    have g3 := L2.Same.of_new ht3 (.tup [v, v])
    have h4 := upd_same (H := upd (upd H5 t2 (.tup [])) t3 (.tup [v, v])) (a := t4) (o := .tup [v, .int n])
    have g4 := L2.Same.of_new ht4 (.tup [v, .int n])
    have g8 := L2.Same.of_new hl8 (.lst [.ref t1, .int n, .int (-1), .int rr, .str "0", .ref t2, .ref t3, .ref t4])
    have hS6 := hS5.same (((g2.trans g3).trans g4).trans g8)
    have k6 := ((Kp.refl s H).trans (L2.Same.of_new ht1 (.tup [v])).kp).trans (k5.trans (((g2.trans g3).trans g4).trans g8).kp)
    have ts6 := ts0.trans (((g2.trans g3).trans g4).trans g8).ts
    have hl8' := upd_same (H := upd (upd (upd H5 t2 (.tup [])) t3 (.tup [v, v])) t4 (.tup [v, .int n])) (a := l8) (o := .lst [.ref t1, .int n, .int (-1), .int rr, .str "0", .ref t2, .ref t3, .ref t4])
    have h41 := (((g2.trans g3).trans g4).trans g8) _ _ h1
    have h42 := ((g3.trans g4).trans g8) _ _ h2
    have h43 := (g4.trans g8) _ _ h3
    have h44 := g8 _ _ h4
    have hl8s : l8 ≠ s := (hS5.same ((g2.trans g3).trans g4)).ne' hl8
    generalize upd (upd (upd (upd H5 t2 (.tup [])) t3 (.tup [v, v])) t4 (.tup [v, .int n])) l8 (.lst [.ref t1, .int n, .int (-1), .int rr, .str "0", .ref t2, .ref t3, .ref t4]) = H6 at *
    have t6 := Tp.mono ts6 t
    have hall : ∀ x ∈ [V.ref t1, .int n, .int (-1), .int rr, .str "0", .ref t2, .ref t3, .ref t4], EndOk H6 k x := fun x hx => by
      simp only [List.mem_cons, List.not_mem_nil, or_false] at hx
      rcases hx with z | z | z | z | z | z | z | z
      · rw [z]
        exact .tup h41 (.one t6) (by simp) (fun d hd => by rw [List.mem_singleton.mp hd]; exact hW.wd (by decide)) fun d hd => by rw [List.mem_singleton.mp hd]; exact hB.mono (by omega)
      · rw [z]; exact .int _
      · rw [z]; exact .int _
      · rw [z]; exact .int _
      · rw [z]; exact ⟨.str "0", .str _, .str _, by decide +kernel, by simp [PyData.depth]⟩
      · rw [z]; exact .tup h42 .nil (by simp) (fun d hd => by cases hd) fun d hd => by cases hd
      · rw [z]
        exact .tup h43 (.cons t6 (.one t6)) (by simp) (fun d hd => by
          simp only [List.mem_cons, List.not_mem_nil, or_false] at hd
          rcases hd with z | z <;> (rw [z]; exact hW.wd (by decide))) fun d hd => by
          simp only [List.mem_cons, List.not_mem_nil, or_false] at hd
          rcases hd with z | z <;> (rw [z]; exact hB.mono (by omega))
      · rw [z]
        exact .tup h44 (.cons t6 (.one (.int n))) (by simp) (fun d hd => by
          simp only [List.mem_cons, List.not_mem_nil, or_false] at hd
          rcases hd with z | z
          · rw [z]; exact hW.wd (by decide)
          · rw [z]; exact .int _) fun d hd => by
          simp only [List.mem_cons, List.not_mem_nil, or_false] at hd
          rcases hd with z | z
          · rw [z]; exact hB.mono (by omega)
          · rw [z]; exact .int _
    trivial
    obtain ⟨ty2, tx2, hkk2⟩ := isi_tup (K := K) t6
    refine ⟨_, _, _, _, _, rfl, .ty _, tx2, hkk2, ?_⟩

    trivial
    refine ⟨s, l8, _, rfl, hS6, hl8s, hl8', by show 0 < 8; decide, by show 8 < 1073741824; decide, fun ii vv H7 hvv hS7 k7 => ?_⟩
    exact q vv H7 hS7 (k6.trans k7) ((hall vv (List.mem_of_getElem? hvv)).mono (hS6.ts k7))
  | false =>
    obtain ⟨ds, rfl⟩ : ∃ ds, d = .tuple ds := by
      cases hW with
      | int i => simp [isInt] at hi
      | tup _ _ _ => exact ⟨_, rfl⟩
    obtain ⟨a, xs, rfl, hT, ts⟩ := t.tuple
    have hxl := ts.len
    obtain ⟨hd1, hd12, hda⟩ := hW.inv
    obtain ⟨j, rfl⟩ : ∃ j, k = j + 1 := by
      cases k with
      | zero => have := hB.2; simp [PyData.depth] at this
      | succ j => exact ⟨j, rfl⟩
    have hBa := Bd.tup.mp hB
    trivial
    refine ⟨hS, by decide, by decide, fun r0 H1 _ _ hS1 k1 => ?_⟩
    trivial
    refine ⟨rfl, _, rfl, ?_⟩
    by_cases hr0 : r0 = 0
    · rw [decide_eq_true (show V.int r0 = V.int 0 by rw [hr0])]
      refine iteT ?_
      trivial
      refine ⟨(by show 1 ≤ sizeLine; decide), fun t1 ht1 => ?_⟩
      trivial
      refine ⟨(hS1).new ht1, by omega, by omega, fun rr H5 rr0 rr1 hS5 k5 => ?_⟩
      refine ⟨(by show 0 ≤ sizeLine; decide), fun t2 ht2 => ?_⟩
      trivial
      refine ⟨(by show 2 ≤ sizeLine; decide), fun t3 ht3 => ?_⟩
      trivial
      refine ⟨(by show 2 ≤ sizeLine; decide), fun t4 ht4 => ?_⟩
      refine ⟨(by show 8 ≤ sizeLine; decide), fun l8 hl8 => ?_⟩
      have ts1 := ((hS1).new (o := .tup [V.ref a]) ht1).ts k5
      have ts0 := (L2.Same.of_new ht1 (.tup [V.ref a])).ts.trans ts1
      have h1 := ts1.t _ _ (upd_same (H := H1) (a := t1) (o := .tup [V.ref a]))
      have h2 := upd_same (H := H5) (a := t2) (o := .tup [])
      have g2 := L2.Same.of_new ht2 (.tup [])
      have h3 := upd_same (H := upd H5 t2 (.tup [])) (a := t3) (o := .tup [V.ref a, V.ref a])
      have g3 := L2.Same.of_new ht3 (.tup [V.ref a, V.ref a])
      have h4 := upd_same (H := upd (upd H5 t2 (.tup [])) t3 (.tup [V.ref a, V.ref a])) (a := t4) (o := .tup [V.ref a, .int n])
      have g4 := L2.Same.of_new ht4 (.tup [V.ref a, .int n])
      have g8 := L2.Same.of_new hl8 (.lst [.ref t1, .int n, .int (-1), .int rr, .str "0", .ref t2, .ref t3, .ref t4])
      have hS6 := hS5.same (((g2.trans g3).trans g4).trans g8)
      have k6 := ((k1).trans (L2.Same.of_new ht1 (.tup [V.ref a])).kp).trans (k5.trans (((g2.trans g3).trans g4).trans g8).kp)
      have ts6 := ts0.trans (((g2.trans g3).trans g4).trans g8).ts
      have hl8' := upd_same (H := upd (upd (upd H5 t2 (.tup [])) t3 (.tup [V.ref a, V.ref a])) t4 (.tup [V.ref a, .int n])) (a := l8) (o := .lst [.ref t1, .int n, .int (-1), .int rr, .str "0", .ref t2, .ref t3, .ref t4])
      have h41 := (((g2.trans g3).trans g4).trans g8) _ _ h1
      have h42 := ((g3.trans g4).trans g8) _ _ h2
      have h43 := (g4.trans g8) _ _ h3
      have h44 := g8 _ _ h4
      have hl8s : l8 ≠ s := (hS5.same ((g2.trans g3).trans g4)).ne' hl8
      generalize upd (upd (upd (upd H5 t2 (.tup [])) t3 (.tup [V.ref a, V.ref a])) t4 (.tup [V.ref a, .int n])) l8 (.lst [.ref t1, .int n, .int (-1), .int rr, .str "0", .ref t2, .ref t3, .ref t4]) = H6 at *
      have t6 := Tp.mono ts6 (t.mono (hS.ts k1))
      have hall : ∀ x ∈ [V.ref t1, .int n, .int (-1), .int rr, .str "0", .ref t2, .ref t3, .ref t4], EndOk H6 (j + 1) x := fun x hx => by
        simp only [List.mem_cons, List.not_mem_nil, or_false] at hx
        rcases hx with z | z | z | z | z | z | z | z
        · rw [z]
          exact .tup h41 (.one t6) (by simp) (fun d hd => by rw [List.mem_singleton.mp hd]; exact hW.wd (by decide)) fun d hd => by rw [List.mem_singleton.mp hd]; exact hB.mono (by omega)
        · rw [z]; exact .int _
        · rw [z]; exact .int _
        · rw [z]; exact .int _
        · rw [z]; exact ⟨.str "0", .str _, .str _, by decide +kernel, by simp [PyData.depth]⟩
        · rw [z]; exact .tup h42 .nil (by simp) (fun d hd => by cases hd) fun d hd => by cases hd
        · rw [z]
          exact .tup h43 (.cons t6 (.one t6)) (by simp) (fun d hd => by
            simp only [List.mem_cons, List.not_mem_nil, or_false] at hd
            rcases hd with z | z <;> (rw [z]; exact hW.wd (by decide))) fun d hd => by
            simp only [List.mem_cons, List.not_mem_nil, or_false] at hd
            rcases hd with z | z <;> (rw [z]; exact hB.mono (by omega))
        · rw [z]
          exact .tup h44 (.cons t6 (.one (.int n))) (by simp) (fun d hd => by
            simp only [List.mem_cons, List.not_mem_nil, or_false] at hd
            rcases hd with z | z
            · rw [z]; exact hW.wd (by decide)
            · rw [z]; exact .int _) fun d hd => by
            simp only [List.mem_cons, List.not_mem_nil, or_false] at hd
            rcases hd with z | z
            · rw [z]; exact hB.mono (by omega)
            · rw [z]; exact .int _
      trivial
      obtain ⟨ty2, tx2, hkk2⟩ := isi_tup (K := K) t6
      refine ⟨_, _, _, _, _, rfl, .ty _, tx2, hkk2, ?_⟩

      trivial
      have hT6 := ts6.t _ _ ((hS.ts k1).t _ _ hT)
      have hxne : xs ≠ [] := fun z => by rw [z] at hxl; simp at hxl; omega
      refine ⟨a, xs, rfl, .of hT6, fun u1 hu1 => ?_⟩
      have b1 := L2.Same.of_new hu1 (.tup xs.reverse)
      have hv1 := upd_same (H := H6) (a := u1) (o := .tup xs.reverse)
      have hT7 := b1 _ _ hT6
      generalize upd H6 u1 (.tup xs.reverse) = H7 at *
      trivial
      refine ⟨a, xs, rfl, .of hT7, fun z => absurd z (nw_but (by omega)), fun _ u2 hu2 => ?_⟩
      have b2 := L2.Same.of_new hu2 (.tup (cutV xs none (some (-1))))
      have hv2 := upd_same (H := H7) (a := u2) (o := .tup (cutV xs none (some (-1))))
      have hv1 := b2 _ _ hv1
      have hT8 := b2 _ _ hT7
      generalize upd H7 u2 (.tup (cutV xs none (some (-1)))) = H8 at *
      trivial
      refine ⟨a, xs, rfl, .of hT8, fun z => absurd z (nw_from (k := 1) (by omega) (by omega)), fun _ u3 hu3 => ?_⟩
      have b3 := L2.Same.of_new hu3 (.tup (cutV xs (some 1) none))
      have hv3 := upd_same (H := H8) (a := u3) (o := .tup (cutV xs (some 1) none))
      have hv1 := b3 _ _ hv1
      have hv2 := b3 _ _ hv2
      have hT9 := b3 _ _ hT8
      generalize upd H8 u3 (.tup (cutV xs (some 1) none)) = H9 at *
      trivial
      have hcut1 : cutV xs none (some 1) = xs.take 1 := by
        rw [show (some (1 : Int)) = some ((1 : Nat) : Int) from rfl, cut_to (by omega)]
      refine ⟨a, xs, rfl, .of hT9, fun z => ?_, fun _ u0 hu0 => ?_⟩
      · have hx1 : xs.take 1 = xs := by
          have z2 := z.2
          rw [show (some (1 : Int)) = some ((1 : Nat) : Int) from rfl, HT.sIx_nat] at z2
          exact List.take_of_length_le (by omega)
        refine ⟨a, a, xs, xs, rfl, rfl, .of hT9, .of hT9, small_ (by omega), fun z => absurd z hxne, fun _ z => absurd z hxne, fun _ _ u4 hu4 => ?_⟩
        have b4 := L2.Same.of_new hu4 (.tup (xs ++ xs))
        have hv4 : upd H9 u4 (.tup (xs ++ xs)) u4 = some (.tup (xs ++ xs.take 1)) := by rw [upd_same, hx1]
        have hv1 := b4 _ _ hv1
        have hv2 := b4 _ _ hv2
        have hv3 := b4 _ _ hv3
        have hT10 := b4 _ _ hT9
        have b610 := ((b1.trans b2).trans b3).trans b4
        generalize upd H9 u4 (.tup (xs ++ xs)) = H10 at *
        trivial
        refine ⟨(by show 1 ≤ sizeLine; decide), fun u5 hu5 => ?_⟩
        have b5 := L2.Same.of_new hu5 (.tup [.int n])
        have hv5 := upd_same (H := H10) (a := u5) (o := .tup [.int n])
        have hT11 := b5 _ _ hT10
        generalize upd H10 u5 (.tup [.int n]) = H11 at *
        refine ⟨a, u5, xs, [.int n], rfl, rfl, .of hT11, .of hv5, small_ (by rw [List.length_singleton]; omega), fun z => absurd z hxne, fun _ z => (by cases z), fun _ _ u6 hu6 => ?_⟩
        have b6 := L2.Same.of_new hu6 (.tup (xs ++ [.int n]))
        have hv6 := upd_same (H := H11) (a := u6) (o := .tup (xs ++ [.int n]))
        have hT12 := b6 _ _ hT11
        generalize upd H11 u6 (.tup (xs ++ [.int n])) = H12 at *
        trivial
        refine ⟨(by show 2 ≤ sizeLine; decide), fun u7 hu7 => ?_⟩
        have b7 := L2.Same.of_new hu7 (.tup [.int n, .int ((n : Int) + 1)])
        have hv7 := upd_same (H := H12) (a := u7) (o := .tup [.int n, .int ((n : Int) + 1)])
        have hT13 := b7 _ _ hT12
        refine ⟨(by show 1 ≤ sizeLine; decide), fun u8 hu8 => ?_⟩
        have b8 := L2.Same.of_new hu8 (.tup [.ref u7])
        have hv8 := upd_same (H := upd H12 u7 (.tup [.int n, .int ((n : Int) + 1)])) (a := u8) (o := .tup [.ref u7])
        have hT14 := b8 _ _ hT13
        have hv7' := b8 _ _ hv7
        have b78 := b7.trans b8
        generalize upd (upd H12 u7 (.tup [.int n, .int ((n : Int) + 1)])) u8 (.tup [.ref u7]) = H14 at *
        refine ⟨a, u8, xs, [.ref u7], rfl, rfl, .of hT14, .of hv8, small_ (by rw [List.length_singleton]; omega), fun z => absurd z hxne, fun _ z => (by cases z), fun _ _ u9 hu9 => ?_⟩
        have b9 := L2.Same.of_new hu9 (.tup (xs ++ [.ref u7]))
        have hv9 := upd_same (H := H14) (a := u9) (o := .tup (xs ++ [.ref u7]))
        have hv7'' := b9 _ _ hv7'
        generalize upd H14 u9 (.tup (xs ++ [.ref u7])) = H15 at *
        refine ⟨(by show 6 ≤ sizeLine; decide), fun l6 hl6 => ?_⟩
        have b10 := L2.Same.of_new hl6 (.lst [.ref u1, .ref u2, .ref u3, .ref u4, .ref u6, .ref u9])
        have hv10 := upd_same (H := H15) (a := l6) (o := .lst [.ref u1, .ref u2, .ref u3, .ref u4, .ref u6, .ref u9])
        have bAll := (((b5.trans b6).trans b78).trans b9).trans b10
        have hv1f := bAll _ _ hv1
        have hv2f := bAll _ _ hv2
        have hv3f := bAll _ _ hv3
        have hv4f := bAll _ _ hv4
        have hv6f := ((b78.trans b9).trans b10) _ _ hv6
        have hv9f := b10 _ _ hv9
        have hv7f := b10 _ _ hv7''
        have hl8f := (b610.trans bAll) _ _ hl8'
        have hS16 := hS6.same (b610.trans bAll)
        have k16 := k6.trans (b610.trans bAll).kp
        have ts16 := (b610.trans bAll).ts
        generalize upd H15 l6 (.lst [.ref u1, .ref u2, .ref u3, .ref u4, .ref u6, .ref u9]) = H16 at *
        trivial
        refine ⟨l6, l8, _, _, rfl, rfl, hv10, hl8f, small_ (by simp), fun lc hlc => ?_⟩
        have b17 := L2.Same.of_new hlc (.lst ([V.ref u1, .ref u2, .ref u3, .ref u4, .ref u6, .ref u9] ++ [.ref t1, .int n, .int (-1), .int rr, .str "0", .ref t2, .ref t3, .ref t4]))
        have hts16 : Tps H16 xs ds := ts.mono ((hS.ts k1).trans (ts6.trans ts16))
        have subE : ∀ r ys es, H16 r = some (.tup ys) → Tps H16 ys es → es.length ≤ 13 → (∀ d ∈ es, d ∈ ds) → EndOk H16 (j + 1) (.ref r) := fun r ys es h1 h2 h3 h4 =>
          .tup h1 h2 h3 (fun d hd => (hda d (h4 d hd)).wd (by decide)) fun d hd => (hBa d (h4 d hd)).mono (by omega)
        have hall2 : ∀ x ∈ [V.ref u1, .ref u2, .ref u3, .ref u4, .ref u6, .ref u9], EndOk H16 (j + 1) x := fun x hx => by
          simp only [List.mem_cons, List.not_mem_nil, or_false] at hx
          rcases hx with z | z | z | z | z | z
          · rw [z]; exact subE _ _ ds.reverse hv1f hts16.reverse (by simp; omega) fun d hd => by simpa using hd
          · rw [z]
            refine subE _ _ ds.dropLast (by rw [hv2f, cut_butlast, List.dropLast_eq_take]) ?_ (by simp; omega) fun d hd => (List.dropLast_sublist ds).subset hd
            rw [List.dropLast_eq_take, hxl]
            exact hts16.take _
          · rw [z]
            refine subE _ _ (ds.drop 1) (by rw [hv3f, show (some (1 : Int)) = some ((1 : Nat) : Int) from rfl, cut_from (by omega)]) (hts16.drop 1) (by simp; omega) fun d hd => List.mem_of_mem_drop hd
          · rw [z]
            refine subE _ _ (ds ++ ds.take 1) hv4f (hts16.append (hts16.take 1)) (by simp; omega) fun d hd => (List.mem_append.mp hd).elim id List.mem_of_mem_take
          · rw [z]
            refine .tup hv6f (hts16.append (.one (.int n))) (by simp; omega) (fun d hd => ?_) fun d hd => ?_
            · rcases List.mem_append.mp hd with z | z
              · exact (hda d z).wd (by decide)
              · rw [List.mem_singleton.mp z]; exact .int _
            · rcases List.mem_append.mp hd with z | z
              · exact (hBa d z).mono (by omega)
              · rw [List.mem_singleton.mp z]; exact .int _
          · rw [z]
            refine .tup hv9f (hts16.append (.one (Tps.mk' hv7f (.cons (.int n) (.one (.int ((n : Int) + 1))))))) (by simp; omega) (fun d hd => ?_) fun d hd => ?_
            · rcases List.mem_append.mp hd with z | z
              · exact (hda d z).wd (by decide)
              · rw [List.mem_singleton.mp z]
                refine .tup (by simp) fun e he => ?_
                simp only [List.mem_cons, List.not_mem_nil, or_false] at he
                rcases he with y | y <;> (rw [y]; exact .int _)
            · rcases List.mem_append.mp hd with z | z
              · exact (hBa d z).mono (by omega)
              · rw [List.mem_singleton.mp z]
                refine Bd.mono (m := 1) (Bd.tup.mpr fun e he => ?_) (by omega)
                simp only [List.mem_cons, List.not_mem_nil, or_false] at he
                rcases he with y | y <;> (rw [y]; exact .int _)
        have hallc : ∀ x ∈ [V.ref u1, .ref u2, .ref u3, .ref u4, .ref u6, .ref u9] ++ [.ref t1, .int n, .int (-1), .int rr, .str "0", .ref t2, .ref t3, .ref t4], EndOk H16 (j + 1) x := fun x hx =>
          (List.mem_append.mp hx).elim (hall2 x) fun z => (hall x z).mono ts16
        trivial
        refine ⟨s, lc, _, rfl, hS16.same b17, hS16.ne' hlc, upd_same, by simp, by simp, fun ii vv H17 hvv hS17 k17 => ?_⟩
        exact q vv H17 hS17 (k16.trans (b17.kp.trans k17)) ((hallc vv (List.mem_of_getElem? hvv)).mono (b17.ts.trans ((hS16.same b17).ts k17)))
      · have b0 := L2.Same.of_new hu0 (.tup (cutV xs none (some 1)))
        have hv0 := upd_same (H := H9) (a := u0) (o := .tup (cutV xs none (some 1)))
        have hT90 := b0 _ _ hT9
        refine ⟨a, u0, xs, _, rfl, rfl, .of hT90, .of hv0, small_ (by rw [hcut1, List.length_take]; omega), fun z => absurd z hxne, fun _ z => ?_, fun _ _ u4 hu4 => ?_⟩
        · rw [hcut1] at z
          exact absurd z (by cases hxs : xs with
            | nil => exact absurd hxs hxne
            | cons b r => simp)
        have b4 := b0.trans (L2.Same.of_new hu4 (.tup (xs ++ cutV xs none (some 1))))
        have hv4 : upd (upd H9 u0 (.tup (cutV xs none (some 1)))) u4 (.tup (xs ++ cutV xs none (some 1))) u4 = some (.tup (xs ++ xs.take 1)) := by rw [upd_same, hcut1]
        have hv1 := b4 _ _ hv1
        have hv2 := b4 _ _ hv2
        have hv3 := b4 _ _ hv3
        have hT10 := b4 _ _ hT9
        have b610 := ((b1.trans b2).trans b3).trans b4
        generalize upd (upd H9 u0 (.tup (cutV xs none (some 1)))) u4 (.tup (xs ++ cutV xs none (some 1))) = H10 at *
        trivial
        refine ⟨(by show 1 ≤ sizeLine; decide), fun u5 hu5 => ?_⟩
        have b5 := L2.Same.of_new hu5 (.tup [.int n])
        have hv5 := upd_same (H := H10) (a := u5) (o := .tup [.int n])
        have hT11 := b5 _ _ hT10
        generalize upd H10 u5 (.tup [.int n]) = H11 at *
        refine ⟨a, u5, xs, [.int n], rfl, rfl, .of hT11, .of hv5, small_ (by rw [List.length_singleton]; omega), fun z => absurd z hxne, fun _ z => (by cases z), fun _ _ u6 hu6 => ?_⟩
        have b6 := L2.Same.of_new hu6 (.tup (xs ++ [.int n]))
        have hv6 := upd_same (H := H11) (a := u6) (o := .tup (xs ++ [.int n]))
        have hT12 := b6 _ _ hT11
        generalize upd H11 u6 (.tup (xs ++ [.int n])) = H12 at *
        trivial
        refine ⟨(by show 2 ≤ sizeLine; decide), fun u7 hu7 => ?_⟩
        have b7 := L2.Same.of_new hu7 (.tup [.int n, .int ((n : Int) + 1)])
        have hv7 := upd_same (H := H12) (a := u7) (o := .tup [.int n, .int ((n : Int) + 1)])
        have hT13 := b7 _ _ hT12
        refine ⟨(by show 1 ≤ sizeLine; decide), fun u8 hu8 => ?_⟩
        have b8 := L2.Same.of_new hu8 (.tup [.ref u7])
        have hv8 := upd_same (H := upd H12 u7 (.tup [.int n, .int ((n : Int) + 1)])) (a := u8) (o := .tup [.ref u7])
        have hT14 := b8 _ _ hT13
        have hv7' := b8 _ _ hv7
        have b78 := b7.trans b8
        generalize upd (upd H12 u7 (.tup [.int n, .int ((n : Int) + 1)])) u8 (.tup [.ref u7]) = H14 at *
        refine ⟨a, u8, xs, [.ref u7], rfl, rfl, .of hT14, .of hv8, small_ (by rw [List.length_singleton]; omega), fun z => absurd z hxne, fun _ z => (by cases z), fun _ _ u9 hu9 => ?_⟩
        have b9 := L2.Same.of_new hu9 (.tup (xs ++ [.ref u7]))
        have hv9 := upd_same (H := H14) (a := u9) (o := .tup (xs ++ [.ref u7]))
        have hv7'' := b9 _ _ hv7'
        generalize upd H14 u9 (.tup (xs ++ [.ref u7])) = H15 at *
        refine ⟨(by show 6 ≤ sizeLine; decide), fun l6 hl6 => ?_⟩
        have b10 := L2.Same.of_new hl6 (.lst [.ref u1, .ref u2, .ref u3, .ref u4, .ref u6, .ref u9])
        have hv10 := upd_same (H := H15) (a := l6) (o := .lst [.ref u1, .ref u2, .ref u3, .ref u4, .ref u6, .ref u9])
        have bAll := (((b5.trans b6).trans b78).trans b9).trans b10
        have hv1f := bAll _ _ hv1
        have hv2f := bAll _ _ hv2
        have hv3f := bAll _ _ hv3
        have hv4f := bAll _ _ hv4
        have hv6f := ((b78.trans b9).trans b10) _ _ hv6
        have hv9f := b10 _ _ hv9
        have hv7f := b10 _ _ hv7''
        have hl8f := (b610.trans bAll) _ _ hl8'
        have hS16 := hS6.same (b610.trans bAll)
        have k16 := k6.trans (b610.trans bAll).kp
        have ts16 := (b610.trans bAll).ts
        generalize upd H15 l6 (.lst [.ref u1, .ref u2, .ref u3, .ref u4, .ref u6, .ref u9]) = H16 at *
        trivial
        refine ⟨l6, l8, _, _, rfl, rfl, hv10, hl8f, small_ (by simp), fun lc hlc => ?_⟩
        have b17 := L2.Same.of_new hlc (.lst ([V.ref u1, .ref u2, .ref u3, .ref u4, .ref u6, .ref u9] ++ [.ref t1, .int n, .int (-1), .int rr, .str "0", .ref t2, .ref t3, .ref t4]))
        have hts16 : Tps H16 xs ds := ts.mono ((hS.ts k1).trans (ts6.trans ts16))
        have subE : ∀ r ys es, H16 r = some (.tup ys) → Tps H16 ys es → es.length ≤ 13 → (∀ d ∈ es, d ∈ ds) → EndOk H16 (j + 1) (.ref r) := fun r ys es h1 h2 h3 h4 =>
          .tup h1 h2 h3 (fun d hd => (hda d (h4 d hd)).wd (by decide)) fun d hd => (hBa d (h4 d hd)).mono (by omega)
        have hall2 : ∀ x ∈ [V.ref u1, .ref u2, .ref u3, .ref u4, .ref u6, .ref u9], EndOk H16 (j + 1) x := fun x hx => by
          simp only [List.mem_cons, List.not_mem_nil, or_false] at hx
          rcases hx with z | z | z | z | z | z
          · rw [z]; exact subE _ _ ds.reverse hv1f hts16.reverse (by simp; omega) fun d hd => by simpa using hd
          · rw [z]
            refine subE _ _ ds.dropLast (by rw [hv2f, cut_butlast, List.dropLast_eq_take]) ?_ (by simp; omega) fun d hd => (List.dropLast_sublist ds).subset hd
            rw [List.dropLast_eq_take, hxl]
            exact hts16.take _
          · rw [z]
            refine subE _ _ (ds.drop 1) (by rw [hv3f, show (some (1 : Int)) = some ((1 : Nat) : Int) from rfl, cut_from (by omega)]) (hts16.drop 1) (by simp; omega) fun d hd => List.mem_of_mem_drop hd
          · rw [z]
            refine subE _ _ (ds ++ ds.take 1) hv4f (hts16.append (hts16.take 1)) (by simp; omega) fun d hd => (List.mem_append.mp hd).elim id List.mem_of_mem_take
          · rw [z]
            refine .tup hv6f (hts16.append (.one (.int n))) (by simp; omega) (fun d hd => ?_) fun d hd => ?_
            · rcases List.mem_append.mp hd with z | z
              · exact (hda d z).wd (by decide)
              · rw [List.mem_singleton.mp z]; exact .int _
            · rcases List.mem_append.mp hd with z | z
              · exact (hBa d z).mono (by omega)
              · rw [List.mem_singleton.mp z]; exact .int _
          · rw [z]
            refine .tup hv9f (hts16.append (.one (Tps.mk' hv7f (.cons (.int n) (.one (.int ((n : Int) + 1))))))) (by simp; omega) (fun d hd => ?_) fun d hd => ?_
            · rcases List.mem_append.mp hd with z | z
              · exact (hda d z).wd (by decide)
              · rw [List.mem_singleton.mp z]
                refine .tup (by simp) fun e he => ?_
                simp only [List.mem_cons, List.not_mem_nil, or_false] at he
                rcases he with y | y <;> (rw [y]; exact .int _)
            · rcases List.mem_append.mp hd with z | z
              · exact (hBa d z).mono (by omega)
              · rw [List.mem_singleton.mp z]
                refine Bd.mono (m := 1) (Bd.tup.mpr fun e he => ?_) (by omega)
                simp only [List.mem_cons, List.not_mem_nil, or_false] at he
                rcases he with y | y <;> (rw [y]; exact .int _)
        have hallc : ∀ x ∈ [V.ref u1, .ref u2, .ref u3, .ref u4, .ref u6, .ref u9] ++ [.ref t1, .int n, .int (-1), .int rr, .str "0", .ref t2, .ref t3, .ref t4], EndOk H16 (j + 1) x := fun x hx =>
          (List.mem_append.mp hx).elim (hall2 x) fun z => (hall x z).mono ts16
        trivial
        refine ⟨s, lc, _, rfl, hS16.same b17, hS16.ne' hlc, upd_same, by simp, by simp, fun ii vv H17 hvv hS17 k17 => ?_⟩
        exact q vv H17 hS17 (k16.trans (b17.kp.trans k17)) ((hallc vv (List.mem_of_getElem? hvv)).mono (b17.ts.trans ((hS16.same b17).ts k17)))
    · rw [decide_eq_false (show ¬ V.int r0 = V.int 0 from fun z => hr0 (V.int.inj z))]
      refine iteF ?_
      trivial
      have hT1 := (hS.ts k1).t _ _ hT
      refine ⟨a, _, rfl, .inr (.of hT1), ?_⟩
      refine ⟨s, xs.length, rfl, hS1, by omega, by omega, fun r1 H2 r10 r11 hS2 k2 => ?_⟩
      obtain ⟨i, rfl⟩ := Int.eq_ofNat_of_zero_le r10
      have hix : i < xs.length := by omega
      have hT2 := (hS1.ts k2).t _ _ hT1
      trivial
      refine ⟨a, _, rfl, .of hT2, fun z => absurd z (nw_to hix), fun _ p1 hp1 => ?_⟩
      have hcut1 : cutV xs none (some (i : Int)) = xs.take i := cut_to (by omega)
      rw [hcut1]
      have e3 := L2.Same.of_new hp1 (.tup (xs.take i))
      have hp1' := upd_same (H := H2) (a := p1) (o := .tup (xs.take i))
      have hS3 := hS2.same e3
      have hT3 := e3 _ _ hT2
      trivial
      have hgx : xs[i]? = some xs[i] := List.getElem?_eq_getElem hix
      obtain ⟨dp, hdp, tdp⟩ := ts.get hgx
      refine ⟨a, _, _, _, rfl, rfl, .of hT3, atI_nat hgx, ?_⟩
      trivial
      have ts03 := ((hS.ts k1).trans (hS1.ts k2)).trans e3.ts
      refine ⟨s, xs[i], dp, n, j, rfl, hS3, hn1, hn12, tdp.mono ts03, hda dp (List.mem_of_getElem? hdp), hBa dp (List.mem_of_getElem? hdp), by omega, fun r H4 hS4' k4' hend => ?_⟩
      obtain ⟨d', td0, wd', bd'⟩ := hend
      have hp1s : p1 ≠ s := hS2.ne' hp1
      refine ⟨(by show 1 ≤ sizeLine; decide), fun p3 hp3 => ?_⟩
      have e4 := L2.Same.of_new hp3 (.tup [r])
      have hp3' := upd_same (H := H4) (a := p3) (o := .tup [r])
      have hS4 := hS4'.same e4
      have k4 := k4'.trans e4.kp
      have td' := td0.mono e4.ts
      have tsall := ts03.trans (hS3.ts k4)
      have hp14 := (hS3.ts k4).t _ _ hp1'
      generalize hH5 : upd H4 p3 (.tup [r]) = H5 at *
      refine ⟨p1, p3, _, _, rfl, rfl, .of hp14, .of hp3', small_ (by rw [List.length_take, List.length_singleton]; omega), fun z0 => ?_, fun _ z => (by cases z), fun _ _ p4 hp4 => ?_⟩
      · have eid := L2.Same.refl H5
        trivial
        refine ⟨a, _, rfl, .of ((tsall.trans (eid).ts).t _ _ hT), fun z => absurd z (nw_from (k := i + 1) (by omega) (by omega)), fun _ p5 hp5 => ?_⟩
        have hcut5 : cutV xs (some ((i : Int) + 1)) none = xs.drop (i + 1) := cut_from (i := i + 1) (by omega)
        have e5 := (eid).put hp5 (.tup (cutV xs (some ((i : Int) + 1)) none))
        have hm5 := (L2.Same.of_new hp5 (.tup (cutV xs (some ((i : Int) + 1)) none))) _ _ hp3'
        refine ⟨p3, p5, _, _, rfl, rfl, .of hm5, .of upd_same, small_ (by rw [hcut5, List.length_drop]; simp; omega), fun z => by simp at z, fun _ z => ?_, fun _ _ p6 hp6 => ?_⟩
        · rw [hcut5] at z
          refine q _ _ (hS4.same e5) (((k1.trans k2).trans e3.kp).trans (k4.trans (e5).kp)) ?_
          refine EndOk.tup (show _ = some (HO.tup (xs.take i ++ [r] ++ xs.drop (i + 1))) by rw [hm5, z, List.append_nil, z0, List.nil_append]) ?_ ?_ ?_ ?_ (ds := ds.take i ++ [d'] ++ ds.drop (i + 1))
          · exact (((ts.take i).mono (tsall.trans (e5).ts)).append (.one (td'.mono (e5).ts))).append ((ts.drop (i + 1)).mono (tsall.trans (e5).ts))
          · simp only [List.length_append, List.length_take, List.length_drop, List.length_singleton]
            omega
          · intro x hx
            rcases List.mem_append.mp hx with hx | hx
            · rcases List.mem_append.mp hx with hx | hx
              · exact (hda x (List.mem_of_mem_take hx)).wd (by decide)
              · rw [List.mem_singleton.mp hx]
                exact wd'
            · exact (hda x (List.mem_of_mem_drop hx)).wd (by decide)
          · intro x hx
            rcases List.mem_append.mp hx with hx | hx
            · rcases List.mem_append.mp hx with hx | hx
              · exact (hBa x (List.mem_of_mem_take hx)).mono (by omega)
              · rw [List.mem_singleton.mp hx]
                exact bd'
            · exact (hBa x (List.mem_of_mem_drop hx)).mono (by omega)
        · have e6 := e5.put hp6 (.tup ([r] ++ cutV xs (some ((i : Int) + 1)) none))
          refine q _ _ (hS4.same e6) (((k1.trans k2).trans e3.kp).trans (k4.trans (e6).kp)) ?_
          refine EndOk.tup (show _ = some (HO.tup (xs.take i ++ [r] ++ xs.drop (i + 1))) by rw [upd_same, hcut5, z0, List.nil_append]) ?_ ?_ ?_ ?_ (ds := ds.take i ++ [d'] ++ ds.drop (i + 1))
          · exact (((ts.take i).mono (tsall.trans (e6).ts)).append (.one (td'.mono (e6).ts))).append ((ts.drop (i + 1)).mono (tsall.trans (e6).ts))
          · simp only [List.length_append, List.length_take, List.length_drop, List.length_singleton]
            omega
          · intro x hx
            rcases List.mem_append.mp hx with hx | hx
            · rcases List.mem_append.mp hx with hx | hx
              · exact (hda x (List.mem_of_mem_take hx)).wd (by decide)
              · rw [List.mem_singleton.mp hx]
                exact wd'
            · exact (hda x (List.mem_of_mem_drop hx)).wd (by decide)
          · intro x hx
            rcases List.mem_append.mp hx with hx | hx
            · rcases List.mem_append.mp hx with hx | hx
              · exact (hBa x (List.mem_of_mem_take hx)).mono (by omega)
              · rw [List.mem_singleton.mp hx]
                exact bd'
            · exact (hBa x (List.mem_of_mem_drop hx)).mono (by omega)
      · have e44 := L2.Same.of_new hp4 (.tup (xs.take i ++ [r]))
        have hp4' := upd_same (H := H5) (a := p4) (o := .tup (xs.take i ++ [r]))
        trivial
        refine ⟨a, _, rfl, .of ((tsall.trans (e44).ts).t _ _ hT), fun z => absurd z (nw_from (k := i + 1) (by omega) (by omega)), fun _ p5 hp5 => ?_⟩
        have hcut5 : cutV xs (some ((i : Int) + 1)) none = xs.drop (i + 1) := cut_from (i := i + 1) (by omega)
        have e5 := (e44).put hp5 (.tup (cutV xs (some ((i : Int) + 1)) none))
        have hm5 := (L2.Same.of_new hp5 (.tup (cutV xs (some ((i : Int) + 1)) none))) _ _ hp4'
        refine ⟨p4, p5, _, _, rfl, rfl, .of hm5, .of upd_same, small_ (by rw [hcut5, List.length_drop]; simp; omega), fun z => by simp at z, fun _ z => ?_, fun _ _ p6 hp6 => ?_⟩
        · rw [hcut5] at z
          refine q _ _ (hS4.same e5) (((k1.trans k2).trans e3.kp).trans (k4.trans (e5).kp)) ?_
          refine EndOk.tup (show _ = some (HO.tup (xs.take i ++ [r] ++ xs.drop (i + 1))) by rw [hm5, z, List.append_nil]) ?_ ?_ ?_ ?_ (ds := ds.take i ++ [d'] ++ ds.drop (i + 1))
          · exact (((ts.take i).mono (tsall.trans (e5).ts)).append (.one (td'.mono (e5).ts))).append ((ts.drop (i + 1)).mono (tsall.trans (e5).ts))
          · simp only [List.length_append, List.length_take, List.length_drop, List.length_singleton]
            omega
          · intro x hx
            rcases List.mem_append.mp hx with hx | hx
            · rcases List.mem_append.mp hx with hx | hx
              · exact (hda x (List.mem_of_mem_take hx)).wd (by decide)
              · rw [List.mem_singleton.mp hx]
                exact wd'
            · exact (hda x (List.mem_of_mem_drop hx)).wd (by decide)
          · intro x hx
            rcases List.mem_append.mp hx with hx | hx
            · rcases List.mem_append.mp hx with hx | hx
              · exact (hBa x (List.mem_of_mem_take hx)).mono (by omega)
              · rw [List.mem_singleton.mp hx]
                exact bd'
            · exact (hBa x (List.mem_of_mem_drop hx)).mono (by omega)
        · have e6 := e5.put hp6 (.tup (xs.take i ++ [r] ++ cutV xs (some ((i : Int) + 1)) none))
          refine q _ _ (hS4.same e6) (((k1.trans k2).trans e3.kp).trans (k4.trans (e6).kp)) ?_
          refine EndOk.tup (show _ = some (HO.tup (xs.take i ++ [r] ++ xs.drop (i + 1))) by rw [upd_same, hcut5]) ?_ ?_ ?_ ?_ (ds := ds.take i ++ [d'] ++ ds.drop (i + 1))
          · exact (((ts.take i).mono (tsall.trans (e6).ts)).append (.one (td'.mono (e6).ts))).append ((ts.drop (i + 1)).mono (tsall.trans (e6).ts))
          · simp only [List.length_append, List.length_take, List.length_drop, List.length_singleton]
            omega
          · intro x hx
            rcases List.mem_append.mp hx with hx | hx
            · rcases List.mem_append.mp hx with hx | hx
              · exact (hda x (List.mem_of_mem_take hx)).wd (by decide)
              · rw [List.mem_singleton.mp hx]
                exact wd'
            · exact (hda x (List.mem_of_mem_drop hx)).wd (by decide)
          · intro x hx
            rcases List.mem_append.mp hx with hx | hx
            · rcases List.mem_append.mp hx with hx | hx
              · exact (hBa x (List.mem_of_mem_take hx)).mono (by omega)
              · rw [List.mem_singleton.mp hx]
                exact bd'
            · exact (hBa x (List.mem_of_mem_drop hx)).mono (by omega)
end
end G93

set_option Elab.async false
set_option linter.all false
set_option maxRecDepth 100000
set_option maxHeartbeats 8000000
/-! made_wood is asked, its error is told -/
namespace G93
open PySem PySem.Spec PyProof.Rows L2
local macro_rules | `(tactic| trivial) => `(tactic| (repeat (first | refine ⟨_, rfl, ?_⟩ | refine ⟨_, _, rfl, rfl, ?_⟩ | refine .inl ⟨_, rfl, ?_⟩ | refine ⟨_, _, rfl, ?_⟩)))
abbrev s_law_told : Stmt := top 47
theorem sc_law_told : FnScope ["_law_n", "_law_thing", "e"] ["_law_n", "_law_thing"] (defScope s_law_told) := ⟨rfl, rfl, rfl, by decide +kernel, rfl, by decide +kernel, by decide +kernel⟩
section
variable {X : Cx} {CX : CXT} {k : Nat} {f : Addr} {fd : FuncData} {ps ks : List Str} {sp : Sp} {E : L2.St → XK} {g : List Value → List Value → List Value} {gV : List V → List V → List V} {x : Str} {p pos : Pos}
theorem run_fnkS {pins : List (Addr × Obj)} {σ : L2.St} {H : Hp} {s : Shared} {Q : VK} {us ws : List Value} {vs zs : List V} (F : FnOk X.prog X.w X.K X.mg X.base CX k f fd ps sp) (hr : Room k X.A) (hb : KBinds X.K fd ps ks g gV) (hx : PassesAt CX X σ (E σ))
    (I : Inv X pins σ H s) (r : Vals vs us) (rz : Vals zs ws) (h : sp (gV vs zs) H Q (E σ)) : wpAny (model X.prog X.w) X.A (call (.ref f) us (ks.zip ws)) (EP X pins σ Q) X.xe s := by
  have r2 := hb.rel r rz
  have hl : (g us ws).length = ps.length := by rw [← r2.length]; exact F.len _ _ _ _ h
  refine wpAny_call (codeAny_mono (F.run X.A X.stack s H ⟨us, ks.zip ws⟩ (g us ws) (gV vs zs) Q (E σ) hr I.env0 (hb.to s us ws I.kIn hl) r2 h) fun r s' hq => ?_)
  cases r with
  | error e => exact hx pins H s e s' I hq
  | ok fl =>
    cases fl with
    | ret u => exact I.after hq
    | next => exact False.elim hq
    | brk => exact False.elim hq
    | cont => exact False.elim hq
theorem pe_callK0S {kws : List Keyword} {tk : TA} (C : CalK X.prog X.w X.K X.mg X.base CX k x ps ks gV sp) (hr : Room k X.A) (hg : Gl X x) (hx : ∀ σ, PassesAt CX X σ (E σ))
    (hkw : PK X kws tk) (hall : (backToKw pos (keywordEach kws X.env)).all (·.1.isSome) = true := by rfl) (hks : (backToKw pos (keywordEach kws X.env)).filterMap (·.1) = ks := by rfl)
    (hdb : (x == ("__debug__" : Str)) = false := by decide)
    (hpl : ((backTo pos (starEach [] X.env)).any (·.1) || (backToKw pos (keywordEach kws X.env)).any (·.1.isNone)) = false := by rfl) :
    PE X (.Call (.Name x p) [] kws pos) (fun σ H Q => tk σ H fun zs H2 => sp (gV [] zs) H2 Q (E σ)) := by
  obtain ⟨f, fd, g, F, b, kp, m⟩ := C.ex
  refine ⟨fun pins s σ H Q I h => ?_⟩
  refine wpAny_Call_Name_kw (ld_glob I hg m ?_ hdb)
  refine PySem.W.callWith_KW0 (h₀ := X.base) I.ok.mod.kin kp hall (thn (hkw.run pos pins s σ H _ I h) fun ws s2 ⟨zs, H2, I2, rz, q2⟩ => ⟨I2.kIn, ?_⟩) hpl
  rw [hks]
  exact run_fnkS F hr b (hx σ) I2 .nil rz q2
end
structure TolT (K : PySem.W.Frag) (mg : Str → Option Value) (Cb Cs Cr : Addr) : Prop where
  gs : mg "BadShape" = some (.ref Cs)
  gb : mg "BadSize" = some (.ref Cb)
  gr : mg "Refused" = some (.ref Cr)
  xs : XfC K Cs
  xb : XfC K Cb
  xr : XfC K Cr
  ns : PySem.W.findIn K (.ref Cs) "what" = some none
  nb : PySem.W.findIn K (.ref Cb) "what" = some none
  nr : PySem.W.findIn K (.ref Cr) "what" = some none
  ss : PySem.W.exmOne K (.ref Cs) (.ref Cs) = some true
  bs : PySem.W.exmOne K (.ref Cb) (.ref Cs) = some false
  bb : PySem.W.exmOne K (.ref Cb) (.ref Cb) = some true
def swapV : List V → List V → List V := fun vs zs => match vs, zs with
  | [], [a, b] => [b, a]
  | _, _ => []
def swapW : List Value → List Value → List Value := fun vs zs => match vs, zs with
  | [], [a, b] => [b, a]
  | _, _ => []
theorem kb_swap {K : PySem.W.Frag} {fd : FuncData} {p1 p2 k1 k2 : Str} (h : ∀ a b : Value, bindArgs fd ⟨[], [(k1, a), (k2, b)]⟩ = pure [(p1, b), (p2, a)]) : KBinds K fd [p1, p2] [k1, k2] swapW swapV where
  to := fun s us ws _ hl => by
    match us, ws, hl with
    | [], [a, b], _ => exact .of_eq (h a b)
    | [], [], hl => simp [swapW] at hl
    | [], [_], hl => simp [swapW] at hl
    | [], _ :: _ :: _ :: _, hl => simp [swapW] at hl
    | _ :: _, ws, hl => simp [swapW] at hl
  rel := fun {vs us zs ws} r rz => by
    cases r with
    | nil =>
      cases rz with
      | nil => exact .nil
      | cons a t =>
        cases t with
        | nil => exact .nil
        | cons b t =>
          cases t with
          | nil => exact .cons b (.cons a .nil)
          | cons _ _ => exact .nil
    | cons a t => exact .nil
def spTold : Sp := fun vs H Q _ => ∃ (n : Int) (v : V) (d : PyData), vs = [.int n, v] ∧ Tp H v d ∧ (Good n → progSize d = n → ∀ r H', Same H H' → H r = none → H' r = some (.lst [.str "wood", v]) → Q (.ref r) H') ∧
  (Good n → progSize d ≠ n → ∀ r H', Same H H' → H r = none → H' r = some (.lst [.str "shape", .int 0]) → Q (.ref r) H') ∧ (¬ Good n → ∀ r H', Same H H' → H r = none → H' r = some (.lst [.str "size", .int n]) → Q (.ref r) H')
section
variable {P : Program} {w : World} {K : PySem.W.Frag} {mg : Str → Option Value} {base : Heap} {f : Addr} {fd : FuncData}
theorem ok_told {Cb Cs Cr : Addr} (F : Fun K "_law_told" "_law_told" s_law_told f fd) (B : Bi mg) (T : TolT K mg Cb Cs Cr) (C_mw : CalK P w K mg base (L2.CX P w) 15 "made_wood" ["n", "thing"] ["thing", "n"] swapV (spMW Cb Cs)) :
    FnOk P w K mg base CX0 16 f fd ["_law_n", "_law_thing"] spTold := by
  refine F.ok sc_law_told (fun vs H Q E h => ?_) (fun cdv A outer s H vs Q E hr h => ?_)
  · obtain ⟨n, v, d, rfl, _⟩ := h
    rfl
  obtain ⟨n, v, d, rfl, t, q1, q2, q3⟩ := h
  refine ⟨_, pss_one (ps_try_all (i := 2) (n := "e") (Wout := fun _ _ _ _ => False)
      (tb := fun W => tRet (tLst (tCons (tC (.str "wood")) (tCons (fun σ H Q => (tCons (tVar 1) (tCons (tVar 0) tNil)) σ H fun zs H2 => spMW Cb Cs (swapV [] zs) H2 Q (WE W σ)) tNil))))
      rfl rfl sc_law_told.nd rfl rfl takes0
      (fun W pn xe tk _ => pss_one (ps_ret (pe_lst (by exact (pa_cons pe_str (pa_cons (pe_callK0S C_mw hr rfl (fun σ => passAt tk σ) (by exact (pk_cons (pv 1) (pk_cons (pv 0) pk_nil)))) pa_nil))))))
      (.cons (c := .ref Cs) ⟨rfl, by decide, .inl T.gs⟩ (fun a oe cls d pn hz hf => pss_one (ps_ret (pe_lst (by exact (pa_cons pe_str (pa_cons (pe_xf T.xs T.ns hz hf (pv 2)) pa_nil))))))
      (.cons (c := .ref Cb) ⟨rfl, by decide, .inl T.gb⟩ (fun a oe cls d pn hz hf => pss_one (ps_ret (pe_lst (by exact (pa_cons pe_str (pa_cons (pe_xf T.xb T.nb hz hf (pv 2)) pa_nil))))))
      (.cons (c := .ref Cr) ⟨rfl, by decide, .inl T.gr⟩ (fun a oe cls d pn hz hf => pss_one (ps_ret (pe_lst (by exact (pa_cons pe_str (pa_cons (pe_xf T.xr T.nr hz hf (pv 2)) pa_nil))))))
      .nil)))), ?_⟩
  trivial
  refine ⟨n, v, d, rfl, t, fun hg hp H1 e1 => ?_, fun hg hp dd H1 e1 hdd => ?_, fun hg dd H1 e1 hdd => ?_⟩
  · refine ⟨(by show 2 ≤ sizeLine; decide), fun r hr2 => ?_⟩
    exact q1 hg hp r _ (e1.put hr2 _) (e1.free hr2) upd_same
  · refine ⟨true, T.ss, fun _ a ha => ?_, fun z => (by cases z)⟩
    trivial
    refine ⟨rfl, rfl, dd, _, _, rfl, hdd, whatF_get _, ?_⟩
    refine ⟨(by show 2 ≤ sizeLine; decide), fun r hr2 => ?_⟩
    exact q2 hg hp r _ (e1.put hr2 _) (e1.free hr2) upd_same
  · refine ⟨false, T.bs, fun z => (by cases z), fun _ => ⟨true, T.bb, fun _ a ha => ?_, fun z => (by cases z)⟩⟩
    trivial
    refine ⟨rfl, rfl, dd, _, _, rfl, hdd, whatF_get _, ?_⟩
    refine ⟨(by show 2 ≤ sizeLine; decide), fun r hr2 => ?_⟩
    exact q3 hg r _ (e1.put hr2 _) (e1.free hr2) upd_same
end
end G93

set_option Elab.async false
set_option linter.all false
set_option maxRecDepth 100000
set_option maxHeartbeats 8000000
/-! the law -/
namespace G93
open PySem PySem.Spec PyProof.Rows L2
local macro_rules | `(tactic| trivial) => `(tactic| (repeat (first | refine ⟨_, rfl, ?_⟩ | refine ⟨_, _, rfl, rfl, ?_⟩ | refine .inl ⟨_, rfl, ?_⟩ | refine ⟨_, _, rfl, ?_⟩)))
abbrev s_law : Stmt := top 49
theorem sc_law : FnScope ["_law_script", "_law_source", "_law_turn", "_law_calendar", "_law_made_here", "_law_tree_here", "_law_due", "_law_n", "_law_wood_here", "_law_other", "_law_again", "_law_thing", "_law_far"] ["_law_script"] (defScope s_law) := ⟨rfl, rfl, rfl, by decide +kernel, rfl, by decide +kernel, by decide +kernel⟩
theorem CalIns.kp {C s : Addr} {H H' : Hp} {c vb vd : Addr} (h : CalIns C H c vb vd) (hS : Src H s) (k : Kp s H H') : CalIns C H' c vb vd := by
  obtain ⟨dx, h⟩ := h
  obtain ⟨x, y, hs, _⟩ := hS
  exact ⟨dx, k _ _ (ne_of h hs (by intro z; cases z)) h⟩
theorem Wd.mono {L M : Nat} {d : PyData} (hLM : L ≤ M) (h : Wd L d) : Wd M d := by
  induction h with
  | int i => exact .int i
  | str x => exact .str x
  | tup h _ ih => exact .tup (by omega) ih
theorem dpl {K : PySem.W.Frag} {H : Hp} {a : Addr} {tag : Str} {v : V} {d : PyData} (h : H a = some (.lst [.str tag, v])) (t : Tp H v d) : Dp K H (.ref a) (.list [.str tag, d]) := .lst (.of h) (.cons (.str _) (.cons t.dp .nil))
theorem bdl {m : Nat} {tag : Str} {d : PyData} (hs : PyData.canLay0 (.str tag) = true) (hb : Bd m d) : Bd (m + 1) (.list [.str tag, d]) := Bd.lst.mpr fun e he => by
  simp only [List.mem_cons, List.not_mem_nil, or_false] at he
  rcases he with z | z
  · rw [z]
    exact ⟨hs, by simp [PyData.depth]⟩
  · rw [z]
    exact hb
theorem tag_wood : PyData.canLay0 (.str "wood") = true := by decide +kernel
theorem tag_shape : PyData.canLay0 (.str "shape") = true := by decide +kernel
theorem tag_size : PyData.canLay0 (.str "size") = true := by decide +kernel
def spLaw (K : PySem.W.Frag) : Sp := fun vs H Q _ => ∃ (a : Addr) (ns : List Int), vs = [.ref a] ∧ SqL K H a (ns.map V.int) ∧ ns.length ≤ 63 ∧ ∀ H', Q (.bl true) H'
section
variable {P : Program} {w : World} {K : PySem.W.Frag} {mg : Str → Option Value} {base : Heap} {f : Addr} {fd : FuncData}
theorem ok_law {C : Addr} (F : Fun K "law" "law" s_law f fd) (B : Bi mg) (C_law_pool : Cal P w K mg base CX0 1 "_law_pool" ["_law_script", "_law_k"] (spPool K)) (C_law_take : Cal P w K mg base CX0 1 "_law_take" ["_law_source", "_law_top"] spTake) (C_law_one : Cal P w K mg base CX0 2 "_law_one" ["_law_source", "_law_things"] (spOne K))
    (C_law_twelve : Cal P w K mg base CX0 2 "_law_twelve" ["_law_source"] spTwelve) (C_law_drawn : Cal P w K mg base CX0 4 "_law_drawn" ["_law_source", "_law_most"] spDrawn) (C_law_made : Cal P w K mg base CX0 4 "_law_made" ["_law_calendar"] (spMadeL C))
    (C_law_tree : Cal P w K mg base CX0 2 "_law_tree" ["_law_source", "_law_calendar"] spTreeD) (C_law_shapes : Cal P w K mg base CX0 1 "_law_shapes" ["_law_calendar", "_law_tree_here"] spLShapes) (C_shape_of : Cal P w K mg base CX0 6 "shape_of" ["calendar", "tree"] (spShape C))
    (C_shapek : CalK P w K mg base CX0 6 "shape_of" ["calendar", "tree"] ["tree", "calendar"] swapV (spShape C)) (C_law_told : Cal P w K mg base CX0 16 "_law_told" ["_law_n", "_law_thing"] spTold) (C_law_wood : Cal P w K mg base CX0 3 "_law_wood" ["_law_source", "_law_n", "_law_most"] spWood)
    (C_law_bent : Cal P w K mg base CX0 15 "_law_bent" ["_law_source", "_law_thing", "_law_n"] (spBent 13)) (C_law_is_wood : Cal P w K mg base CX0 13 "_law_is_wood" ["_law_thing"] spIsW) : FnOk P w K mg base CX0 20 f fd ["_law_script"] (spLaw K) := by
  refine F.ok sc_law (fun vs H Q E h => ?_) (fun cdv A outer s H vs Q E hr h => ?_)
  · obtain ⟨_, _, rfl, _⟩ := h
    rfl
  obtain ⟨a, ns, rfl, hSq, _, q⟩ := h
  refine ⟨_, (pss_cons (ps_set (i := 1) sc_law.nd rfl (Or.inl rfl) (pe_callC C_law_pool (hr.mono (by decide)) (by rfl) pass0 (pa_cons (pv 0) (pa_cons pe_int pa_nil))))
      (pss_cons (ps_for PassesOwn.never rfl (pi_range1 (by rfl) B.range_ (pa_cons pe_int pa_nil)) (pg_name (i := 2) sc_law.nd rfl (Or.inl rfl))
        (pss_cons (ps_set (i := 3) sc_law.nd rfl (Or.inl rfl) (pe_ifExp (pt_cmpR op_eq (pe_callC C_law_take (hr.mono (by decide)) (by rfl) pass0 (pa_cons (pv 1) (pa_cons pe_int pa_nil))) pe_int (nomark _)) (pe_callC C_law_twelve (hr.mono (by decide)) (by rfl) pass0 (pa_cons (pv 1) pa_nil)) (pe_callC C_law_drawn (hr.mono (by decide)) (by rfl) pass0 (pa_cons (pv 1) (pa_cons pe_int pa_nil)))))
        (pss_cons (ps_par (i := 4) (j := 5) rfl sc_law.nd rfl rfl (by decide) rfl rfl (pa_cons (pe_callC C_law_made (hr.mono (by decide)) (by rfl) pass0 (pa_cons (pv 3) pa_nil)) (pa_cons (pe_callC C_law_tree (hr.mono (by decide)) (by rfl) pass0 (pa_cons (pv 1) (pa_cons (pv 3) pa_nil))) pa_nil)) (by rfl))
        (pss_cons (ps_set (i := 6) sc_law.nd rfl (Or.inl rfl) (pe_callC C_law_shapes (hr.mono (by decide)) (by rfl) pass0 (pa_cons (pv 3) (pa_cons (pv 5) pa_nil))))
        (pss_cons (ps_if (PW.pt (pw_or (pt_cmpR (op_neD (hu4_of hr)) (pe_callC C_shape_of (hr.mono (by decide)) (by rfl) pass0 (pa_cons (pv 4) (pa_cons (pv 5) pa_nil))) (pv 6) (nomark _)) (pw_or (pt_cmpR (op_neD (hu4_of hr)) (pe_callK0C C_shapek (hr.mono (by decide)) (by rfl) pass0 (pk_cons (pv 5) (pk_cons (pv 4) pk_nil))) (pv 6) (nomark _)) (pw_or1 (pt_cmpR (op_neD (hu4_of hr)) (pe_callC C_law_told (hr.mono (by decide)) (by rfl) pass0 (pa_cons (pe_callB call_len_seq (by rfl) B.len_ (by decide +kernel) (pa_cons (pe_ix ix_tup (pv 3) pe_int (fun _ _ => rfl)) pa_nil)) (pa_cons (pv 6) pa_nil))) (pe_lst (pa_cons pe_str (pa_cons (pv 6) pa_nil))) (nomark _))))))
          (pss_one (ps_ret pe_bl))
          pss_nil)
        (pss_cons (ps_set (i := 7) sc_law.nd rfl (Or.inl rfl) (pe_op op_add pe_int (pe_callC C_law_take (hr.mono (by decide)) (by rfl) pass0 (pa_cons (pv 1) (pa_cons pe_int pa_nil)))))
        (pss_cons (ps_set (i := 8) sc_law.nd rfl (Or.inl rfl) (pe_callC C_law_wood (hr.mono (by decide)) (by rfl) pass0 (pa_cons (pv 1) (pa_cons (pv 7) (pa_cons pe_int pa_nil)))))
        (pss_cons (ps_if (pt_cmpR (op_neD (hu4_of hr)) (pe_callC C_law_told (hr.mono (by decide)) (by rfl) pass0 (pa_cons (pv 7) (pa_cons (pv 8) pa_nil))) (pe_lst (pa_cons pe_str (pa_cons (pv 8) pa_nil))) (nomark _))
          (pss_one (ps_ret pe_bl))
          pss_nil)
        (pss_cons (ps_set (i := 9) sc_law.nd rfl (Or.inl rfl) (pe_callC C_law_one (hr.mono (by decide)) (by rfl) pass0 (pa_cons (pv 1) (pa_cons (pe_lst (pa_cons (pv 7) (pa_cons (pv 7) (pa_cons (pe_op op_add (pv 7) pe_int) (pa_cons (pe_op op_sub (pv 7) pe_int) pa_nil))))) pa_nil))))
        (pss_cons (ps_if (PW.pt (pw_and (pt_chain op_lt op_lt pe_int (pv 9) pe_int) (pw_and1 (pt_cmpR (op_neD (hu4_of hr)) (pe_callC C_law_told (hr.mono (by decide)) (by rfl) pass0 (pa_cons (pv 9) (pa_cons (pv 8) pa_nil))) (pe_ifExp (pt_cmpR op_eq (pv 9) (pv 7) (nomark _)) (pe_lst (pa_cons pe_str (pa_cons (pv 8) pa_nil))) (pe_lst (pa_cons pe_str (pa_cons pe_int pa_nil)))) (nomark _)))))
          (pss_one (ps_ret pe_bl))
          pss_nil)
        (pss_cons (ps_for PassesOwn.never rfl (pi_range1 (by rfl) B.range_ (pa_cons pe_int pa_nil)) (pg_name (i := 10) sc_law.nd rfl (Or.inl rfl))
          (pss_cons (ps_set (i := 11) sc_law.nd rfl (Or.inl rfl) (pe_callC C_law_bent (hr.mono (by decide)) (by rfl) pass0 (pa_cons (pv 1) (pa_cons (pv 8) (pa_cons (pv 7) pa_nil)))))
          (pss_one (ps_if (pt_cmpR (op_neD (hu4_of hr)) (pe_callC C_law_told (hr.mono (by decide)) (by rfl) pass0 (pa_cons (pv 7) (pa_cons (pv 11) pa_nil))) (pe_ifExp (pt_cmpR op_eq (pe_callC C_law_is_wood (hr.mono (by decide)) (by rfl) pass0 (pa_cons (pv 11) pa_nil)) (pv 7) (nomark _)) (pe_lst (pa_cons pe_str (pa_cons (pv 11) pa_nil))) (pe_lst (pa_cons pe_str (pa_cons pe_int pa_nil)))) (nomark _))
            (pss_one (ps_ret pe_bl))
            pss_nil))))
        (pss_cons (ps_set (i := 12) sc_law.nd rfl (Or.inl rfl) (pe_callC C_law_one (hr.mono (by decide)) (by rfl) pass0 (pa_cons (pv 1) (pa_cons (pe_lst (pa_cons pe_int (pa_cons pe_int (pa_cons (pe_un un_neg pe_int) (pa_cons (pe_op op_pow pe_int pe_int) pa_nil))))) pa_nil))))
        (pss_one (ps_if (pt_cmpR (op_neD (hu4_of hr)) (pe_callC C_law_told (hr.mono (by decide)) (by rfl) pass0 (pa_cons (pv 12) (pa_cons (pe_callC C_law_one (hr.mono (by decide)) (by rfl) pass0 (pa_cons (pv 1) (pa_cons (pe_lst (pa_cons (pv 8) (pa_cons (pe_tup pa_nil) (pa_cons pe_str pa_nil)))) pa_nil))) pa_nil))) (pe_lst (pa_cons pe_str (pa_cons (pv 12) pa_nil))) (nomark _))
          (pss_one (ps_ret pe_bl))
          pss_nil))))))))))))))
      (pss_one (ps_ret pe_bl))))
   , ?_⟩
  trivial
  refine ⟨a, ns, rfl, hSq, fun s H0 _ _ hS0 => ?_⟩
  trivial
  refine ⟨by decide, by decide, ?_⟩
  refine for_range (n := 4) (fun i σ H1 => ∃ (u2 u3 u4 u5 u6 u7 u8 u9 u10 u11 u12 : Option V), σ = [some (.ref a), some (.ref s), u2, u3, u4, u5, u6, u7, u8, u9, u10, u11, u12] ∧ Src H1 s) ⟨_, _, _, _, _, _, _, _, _, _, _, rfl, hS0⟩ (fun i σ H1 _ h => ?_) (fun σ H1 h => ?_)
  · obtain ⟨u2, u3, u4, u5, u6, u7, u8, u9, u10, u11, u12, rfl, hS1⟩ := h
    trivial
    refine ⟨hS1, by decide, by decide, fun r8 H2 _ _ hS2 _ => ?_⟩
    trivial
    refine ⟨rfl, _, rfl, ?_⟩
    refine ite2 (fun _ => ?_) (fun _ => ?_)
    all_goals
      trivial
      first | refine ⟨hS2, ?_⟩ | refine ⟨_, rfl, hS2, ?_⟩
      intro cal vb vd born days H3 hS3 _ hP hC hO
      have hlo := hO.lo
      have hhi := hO.hi
      trivial
      refine ⟨cal, vb, vd, born, days, rfl, hP, hC, hO, fun c H4 e4 hI => ?_⟩
      trivial
      have hS4 := hS3.same e4
      have hP4 : Pair H4 cal vb vd := e4 _ _ hP
      refine ⟨s, cal, vb, vd, born, days, rfl, hS4, hP4, hC.mono e4.ts, hO, fun tr rows H5 hS5 k5 hTr hTO => ?_⟩
      have ts45 := hS4.ts k5
      have hP5 : Pair H5 cal vb vd := ts45.t _ _ hP4
      have hC5 := (hC.mono e4.ts).mono ts45
      have hI5 := hI.kp hS4 k5
      trivial
      refine ⟨cal, tr, vb, vd, born, days, rows, rfl, hP5, hC5, hO, hTr, hTO, fun due H6 e6 hD => ?_⟩
      have hW : Wood born.length (woodIn born.length rows.flatten) := tree_wood hTO hlo hhi
      have hCT6 : CT C H6 c tr vb vd born days rows := CT.same ⟨hI5, hC5, hO, hTr, hTO⟩ e6
      have hP6 : Pair H6 cal vb vd := e6 _ _ hP5
      have hS6 := hS5.same e6
      trivial
      refine ⟨c, tr, vb, vd, born, days, rows, rfl, hCT6, fun r1 H7 e7 hr1 => ?_⟩
      trivial
      have hsW : SeqAt.shaped (woodIn born.length rows.flatten) = true := hW.b.shaped (by decide)
      refine ⟨_, _, hr1.dp, (hD.mono e7.ts).dp, hsW, hsW, ?_⟩
      rw [eqv_same hW.b]
      trivial
      have e67 := e7
      refine ⟨c, tr, vb, vd, born, days, rows, rfl, hCT6.same e7, fun r2 H8 e8 hr2 => ?_⟩
      trivial
      have e68 := e7.trans e8
      refine ⟨_, _, hr2.dp, (hD.mono e68.ts).dp, hsW, hsW, ?_⟩
      rw [eqv_same hW.b]
      trivial
      refine ⟨cal, _, _, _, rfl, rfl, .of (e68 _ _ hP6), rfl, ?_⟩
      trivial
      have hC8 := (hC5.mono e6.ts).mono e68.ts
      refine ⟨vb, _, rfl, .inr hC8.b.sqT, ?_⟩
      trivial
      have hD8 := hD.mono e68.ts
      have hGb : Good (((born.map V.int).length : Nat) : Int) := by rw [List.length_map]; exact ⟨by omega, by omega⟩
      have hpb : progSize (woodIn born.length rows.flatten) = (((born.map V.int).length : Nat) : Int) := by rw [List.length_map]; exact hW.p
      refine ⟨_, .ref due, _, rfl, hD8, fun _ _ r3 H9 e9 hn3 hr3 => ?_, fun _ hp => absurd hpb hp, fun hg => absurd hGb hg⟩
      trivial
      refine ⟨(by show 2 ≤ sizeLine; decide), fun l3 hl3 => ?_⟩
      have e93 := L2.Same.of_new hl3 (.lst [.str "wood", .ref due])
      have hbW : Bd 13 (.list [.str "wood", woodIn born.length rows.flatten]) := bdl tag_wood hW.b
      have hD9 := hD8.mono (e9.trans e93).ts
      refine ⟨_, _, dpl (e93 _ _ hr3) hD9, dpl upd_same hD9, hbW.shaped (by decide), hbW.shaped (by decide), ?_⟩
      rw [eqv_same hbW]
      trivial
      have hS9 := hS6.same ((e68.trans e9).trans e93)
      refine ⟨hS9, by decide, by decide, fun rn H10 rn0 rn1 hS10 _ => ?_⟩
      obtain ⟨n, hn⟩ : ∃ n : Nat, (n : Int) = 1 + rn := ⟨(1 + rn).toNat, by omega⟩
      trivial
      refine ⟨s, n, by rw [hn]; rfl, hS10, by omega, by omega, fun wd d H11 hS11 _ hwd hWd => ?_⟩
      have hGn : Good (1 + rn) := ⟨by omega, by omega⟩
      have hpn : progSize d = 1 + rn := by rw [hWd.p]; exact hn
      have hsd : SeqAt.shaped d = true := hWd.b.shaped (by decide)
      trivial
      refine ⟨1 + rn, .ref wd, d, rfl, hwd, fun _ _ r4 H12 e12 hn4 hr4 => ?_, fun _ hp => absurd hpn hp, fun hg => absurd hGn hg⟩
      trivial
      refine ⟨(by show 2 ≤ sizeLine; decide), fun l4 hl4 => ?_⟩
      have e13 := L2.Same.of_new hl4 (.lst [.str "wood", .ref wd])
      have hbw : Bd 13 (.list [.str "wood", d]) := bdl tag_wood hWd.b
      have hwd13 := hwd.mono (e12.trans e13).ts
      have hS13 := hS11.same (e12.trans e13)
      refine ⟨_, _, dpl (e13 _ _ hr4) hwd13, dpl upd_same hwd13, hbw.shaped (by decide), hbw.shaped (by decide), ?_⟩
      rw [eqv_same hbw]
      trivial
      refine ⟨(by show 4 ≤ sizeLine; decide), fun l5 hl5 => ?_⟩
      have e14 := L2.Same.of_new hl5 (.lst [.int (1 + rn), .int (1 + rn), .int (1 + rn + 1), .int (1 + rn - 1)])
      have hS14 := hS13.same e14
      refine ⟨s, l5, _, rfl, hS14, hS13.ne' hl5, upd_same, by show 0 < 4; decide, by show 4 < 1073741824; decide, fun ii vo H15 hvo hS15 k15 => ?_⟩
      obtain ⟨o, rfl⟩ : ∃ o : Int, vo = .int o := by
        have hm := List.mem_of_getElem? hvo
        simp only [List.mem_cons, List.not_mem_nil, or_false] at hm
        rcases hm with z | z | z | z <;> exact ⟨_, z⟩
      have hwd15 := (hwd13.mono e14.ts).mono (hS14.ts k15)
      trivial
      by_cases ho0 : 0 < o
      · rw [decide_eq_true ho0]
        trivial
        by_cases ho13 : o < 13
        · rw [decide_eq_true ho13]
          refine iteT ?_
          have hGo : Good o := ⟨by omega, by omega⟩
          trivial
          refine ⟨o, .ref wd, d, rfl, hwd15, fun _ hp r5 Hb eb hn5 hr5 => ?_, fun _ hp r5 Hb eb hn5 hr5 => ?_, fun hg => absurd hGo hg⟩
          · trivial
            refine ⟨rfl, _, rfl, ?_⟩
            rw [decide_eq_true (show V.int o = V.int (1 + rn) by rw [← hpn, hp])]
            refine iteT ?_
            trivial
            refine ⟨(by show 2 ≤ sizeLine; decide), fun l6 hl6 => ?_⟩
            have e6' := L2.Same.of_new hl6 (.lst [.str "wood", .ref wd])
            have hwd16 := hwd15.mono (eb.trans e6').ts
            have hS16 := hS15.same (eb.trans e6')
            refine ⟨_, _, dpl (e6' _ _ hr5) hwd16, dpl upd_same hwd16, hbw.shaped (by decide), hbw.shaped (by decide), ?_⟩
            rw [eqv_same hbw]
            trivial
            refine ⟨by decide, by decide, ?_⟩
            refine for_range (n := 3) (fun m σ Hx => ∃ (v10 v11 : Option V), σ = [some (.ref a), some (.ref s), some (.int (0 + (i : Int))), some (.ref cal), some (.ref c), some (.ref tr), some (.ref due), some (.int (1 + rn)), some (.ref wd), some (.int o), v10, v11, u12] ∧ Src Hx s ∧ Tp Hx (.ref wd) d)
              ⟨_, _, rfl, hS16, hwd16⟩ (fun m σ Hx _ h => ?_) (fun σ Hx h => ?_)
            · obtain ⟨v10, v11, rfl, hSx, hwx⟩ := h
              trivial
              refine ⟨s, .ref wd, d, n, 12, by rw [hn]; rfl, hSx, by omega, by omega, hwx, hWd.w, hWd.b, by decide, fun r Ha hSa ka hE => ?_⟩
              obtain ⟨d', td, wdd, bdd⟩ := hE
              have hwa := hwx.mono (hSx.ts ka)
              trivial
              refine ⟨1 + rn, r, d', rfl, td, fun _ hp r5 Hb eb hn5 hr5 => ?_, fun _ hp r5 Hb eb hn5 hr5 => ?_, fun hg => absurd hGn hg⟩
              · trivial
                refine ⟨r, d', rfl, td.mono eb.ts, wdd.mono (by decide), bdd.mono (by decide), fun Hc ec => ?_⟩
                trivial
                refine ⟨rfl, _, rfl, ?_⟩
                have hl : lawSize d' = 1 + rn := (size_eq hGn.1 hGn.2).mp hp
                rw [decide_eq_true (show V.int (lawSize d') = V.int (1 + rn) by rw [hl])]
                refine iteT ?_
                trivial
                refine ⟨(by show 2 ≤ sizeLine; decide), fun l6 hl6 => ?_⟩
                have e6' := L2.Same.of_new hl6 (.lst [.str "wood", r])
                have ebc := (eb.trans ec).trans e6'
                have hbl : Bd 15 (.list [.str "wood", d']) := bdl tag_wood bdd
                refine ⟨_, _, dpl ((ec.trans e6') _ _ hr5) (td.mono ebc.ts), dpl upd_same (td.mono ebc.ts), hbl.shaped (by decide), hbl.shaped (by decide), ?_⟩
                rw [eqv_same hbl]
                trivial
                exact ⟨hSa.same ebc, hwa.mono ebc.ts⟩
              · trivial
                refine ⟨r, d', rfl, td.mono eb.ts, wdd.mono (by decide), bdd.mono (by decide), fun Hc ec => ?_⟩
                trivial
                refine ⟨rfl, _, rfl, ?_⟩
                have hl : ¬ lawSize d' = 1 + rn := fun z => hp ((size_eq hGn.1 hGn.2).mpr z)
                rw [decide_eq_false (show ¬ V.int (lawSize d') = V.int (1 + rn) from fun z => hl (V.int.inj z))]
                refine iteF ?_
                trivial
                refine ⟨(by show 2 ≤ sizeLine; decide), fun l6 hl6 => ?_⟩
                have e6' := L2.Same.of_new hl6 (.lst [.str "shape", .int 0])
                have ebc := (eb.trans ec).trans e6'
                have hbl : Bd 1 (.list [.str "shape", .int 0]) := bdl tag_shape (.int 0)
                refine ⟨_, _, dpl ((ec.trans e6') _ _ hr5) (.int 0), dpl upd_same (.int 0), hbl.shaped (by decide), hbl.shaped (by decide), ?_⟩
                rw [eqv_same hbl]
                trivial
                exact ⟨hSa.same ebc, hwa.mono ebc.ts⟩
            · obtain ⟨v10, v11, rfl, hSx, hwx⟩ := h
              trivial
              refine ⟨(by show CPow 10 9; unfold CPow; decide), ?_⟩
              refine ⟨(by show 4 ≤ sizeLine; decide), fun l7 hl7 => ?_⟩
              have e7' := L2.Same.of_new hl7 (.lst [.int 0, .int 13, .int (-1), .int (10 ^ (9 : Int).toNat)])
              refine ⟨s, l7, _, rfl, hSx.same e7', hSx.ne' hl7, upd_same, by show 0 < 4; decide, by show 4 < 1073741824; decide, fun jj vf Hf hvf hSf kf => ?_⟩
              obtain ⟨fv, rfl, hnG⟩ : ∃ fv : Int, vf = .int fv ∧ ¬ Good fv := by
                have hm := List.mem_of_getElem? hvf
                simp only [List.mem_cons, List.not_mem_nil, or_false] at hm
                rcases hm with z | z | z | z
                · exact ⟨_, z, fun g => absurd g.1 (by decide)⟩
                · exact ⟨_, z, fun g => absurd g.2 (by decide)⟩
                · exact ⟨_, z, fun g => absurd g.1 (by decide)⟩
                · exact ⟨_, z, fun g => absurd g.2 (by decide)⟩
              have hwf := (hwx.mono e7'.ts).mono ((hSx.same e7').ts kf)
              trivial
              refine ⟨(by show 0 ≤ sizeLine; decide), fun t0 ht0 => ?_⟩
              trivial
              refine ⟨(by show 3 ≤ sizeLine; decide), fun l8 hl8 => ?_⟩
              have e80 := L2.Same.of_new ht0 (.tup [])
              have e8' := L2.Same.of_new hl8 (.lst [.ref wd, .ref t0, .str "0"])
              have ht0' := e8' _ _ (upd_same (H := Hf) (a := t0) (o := .tup []))
              have hSg0 := hSf.same (e80.trans e8')
              refine ⟨s, l8, _, rfl, hSg0, (hSf.same e80).ne' hl8, upd_same, by show 0 < 3; decide, by show 3 < 1073741824; decide, fun kk vt Hg hvt hSg kg => ?_⟩
              have tsg := hSg0.ts kg
              obtain ⟨dt, tdt⟩ : ∃ dt, Tp Hg vt dt := by
                have hm := List.mem_of_getElem? hvt
                simp only [List.mem_cons, List.not_mem_nil, or_false] at hm
                rcases hm with z | z | z
                · rw [z]; exact ⟨_, (hwf.mono (e80.trans e8').ts).mono tsg⟩
                · rw [z]; exact ⟨_, (Tps.mk' ht0' .nil).mono tsg⟩
                · rw [z]; exact ⟨_, .str _⟩
              refine ⟨fv, vt, dt, rfl, tdt, fun hg => absurd hg hnG, fun hg => absurd hg hnG, fun _ r6 Hh eh hn6 hr6 => ?_⟩
              trivial
              refine ⟨(by show 2 ≤ sizeLine; decide), fun l9 hl9 => ?_⟩
              have e9' := L2.Same.of_new hl9 (.lst [.str "size", .int fv])
              have hbl : Bd 1 (.list [.str "size", .int fv]) := bdl tag_size (.int fv)
              refine ⟨_, _, dpl (e9' _ _ hr6) (.int fv), dpl upd_same (.int fv), hbl.shaped (by decide), hbl.shaped (by decide), ?_⟩
              rw [eqv_same hbl]
              trivial
              exact ⟨_, _, _, _, _, _, _, _, _, _, _, rfl, hSg.same (eh.trans e9')⟩
          · trivial
            refine ⟨rfl, _, rfl, ?_⟩
            rw [decide_eq_false (show ¬ V.int o = V.int (1 + rn) from fun z => hp (by rw [hpn]; exact (V.int.inj z).symm))]
            refine iteF ?_
            trivial
            refine ⟨(by show 2 ≤ sizeLine; decide), fun l6 hl6 => ?_⟩
            have e6' := L2.Same.of_new hl6 (.lst [.str "shape", .int 0])
            have hwd16 := hwd15.mono (eb.trans e6').ts
            have hS16 := hS15.same (eb.trans e6')
            have hbl : Bd 1 (.list [.str "shape", .int 0]) := bdl tag_shape (.int 0)
            refine ⟨_, _, dpl (e6' _ _ hr5) (.int 0), dpl upd_same (.int 0), hbl.shaped (by decide), hbl.shaped (by decide), ?_⟩
            rw [eqv_same hbl]
            trivial
            refine ⟨by decide, by decide, ?_⟩
            refine for_range (n := 3) (fun m σ Hx => ∃ (v10 v11 : Option V), σ = [some (.ref a), some (.ref s), some (.int (0 + (i : Int))), some (.ref cal), some (.ref c), some (.ref tr), some (.ref due), some (.int (1 + rn)), some (.ref wd), some (.int o), v10, v11, u12] ∧ Src Hx s ∧ Tp Hx (.ref wd) d)
              ⟨_, _, rfl, hS16, hwd16⟩ (fun m σ Hx _ h => ?_) (fun σ Hx h => ?_)
            · obtain ⟨v10, v11, rfl, hSx, hwx⟩ := h
              trivial
              refine ⟨s, .ref wd, d, n, 12, by rw [hn]; rfl, hSx, by omega, by omega, hwx, hWd.w, hWd.b, by decide, fun r Ha hSa ka hE => ?_⟩
              obtain ⟨d', td, wdd, bdd⟩ := hE
              have hwa := hwx.mono (hSx.ts ka)
              trivial
              refine ⟨1 + rn, r, d', rfl, td, fun _ hp r5 Hb eb hn5 hr5 => ?_, fun _ hp r5 Hb eb hn5 hr5 => ?_, fun hg => absurd hGn hg⟩
              · trivial
                refine ⟨r, d', rfl, td.mono eb.ts, wdd.mono (by decide), bdd.mono (by decide), fun Hc ec => ?_⟩
                trivial
                refine ⟨rfl, _, rfl, ?_⟩
                have hl : lawSize d' = 1 + rn := (size_eq hGn.1 hGn.2).mp hp
                rw [decide_eq_true (show V.int (lawSize d') = V.int (1 + rn) by rw [hl])]
                refine iteT ?_
                trivial
                refine ⟨(by show 2 ≤ sizeLine; decide), fun l6 hl6 => ?_⟩
                have e6' := L2.Same.of_new hl6 (.lst [.str "wood", r])
                have ebc := (eb.trans ec).trans e6'
                have hbl : Bd 15 (.list [.str "wood", d']) := bdl tag_wood bdd
                refine ⟨_, _, dpl ((ec.trans e6') _ _ hr5) (td.mono ebc.ts), dpl upd_same (td.mono ebc.ts), hbl.shaped (by decide), hbl.shaped (by decide), ?_⟩
                rw [eqv_same hbl]
                trivial
                exact ⟨hSa.same ebc, hwa.mono ebc.ts⟩
              · trivial
                refine ⟨r, d', rfl, td.mono eb.ts, wdd.mono (by decide), bdd.mono (by decide), fun Hc ec => ?_⟩
                trivial
                refine ⟨rfl, _, rfl, ?_⟩
                have hl : ¬ lawSize d' = 1 + rn := fun z => hp ((size_eq hGn.1 hGn.2).mpr z)
                rw [decide_eq_false (show ¬ V.int (lawSize d') = V.int (1 + rn) from fun z => hl (V.int.inj z))]
                refine iteF ?_
                trivial
                refine ⟨(by show 2 ≤ sizeLine; decide), fun l6 hl6 => ?_⟩
                have e6' := L2.Same.of_new hl6 (.lst [.str "shape", .int 0])
                have ebc := (eb.trans ec).trans e6'
                have hbl : Bd 1 (.list [.str "shape", .int 0]) := bdl tag_shape (.int 0)
                refine ⟨_, _, dpl ((ec.trans e6') _ _ hr5) (.int 0), dpl upd_same (.int 0), hbl.shaped (by decide), hbl.shaped (by decide), ?_⟩
                rw [eqv_same hbl]
                trivial
                exact ⟨hSa.same ebc, hwa.mono ebc.ts⟩
            · obtain ⟨v10, v11, rfl, hSx, hwx⟩ := h
              trivial
              refine ⟨(by show CPow 10 9; unfold CPow; decide), ?_⟩
              refine ⟨(by show 4 ≤ sizeLine; decide), fun l7 hl7 => ?_⟩
              have e7' := L2.Same.of_new hl7 (.lst [.int 0, .int 13, .int (-1), .int (10 ^ (9 : Int).toNat)])
              refine ⟨s, l7, _, rfl, hSx.same e7', hSx.ne' hl7, upd_same, by show 0 < 4; decide, by show 4 < 1073741824; decide, fun jj vf Hf hvf hSf kf => ?_⟩
              obtain ⟨fv, rfl, hnG⟩ : ∃ fv : Int, vf = .int fv ∧ ¬ Good fv := by
                have hm := List.mem_of_getElem? hvf
                simp only [List.mem_cons, List.not_mem_nil, or_false] at hm
                rcases hm with z | z | z | z
                · exact ⟨_, z, fun g => absurd g.1 (by decide)⟩
                · exact ⟨_, z, fun g => absurd g.2 (by decide)⟩
                · exact ⟨_, z, fun g => absurd g.1 (by decide)⟩
                · exact ⟨_, z, fun g => absurd g.2 (by decide)⟩
              have hwf := (hwx.mono e7'.ts).mono ((hSx.same e7').ts kf)
              trivial
              refine ⟨(by show 0 ≤ sizeLine; decide), fun t0 ht0 => ?_⟩
              trivial
              refine ⟨(by show 3 ≤ sizeLine; decide), fun l8 hl8 => ?_⟩
              have e80 := L2.Same.of_new ht0 (.tup [])
              have e8' := L2.Same.of_new hl8 (.lst [.ref wd, .ref t0, .str "0"])
              have ht0' := e8' _ _ (upd_same (H := Hf) (a := t0) (o := .tup []))
              have hSg0 := hSf.same (e80.trans e8')
              refine ⟨s, l8, _, rfl, hSg0, (hSf.same e80).ne' hl8, upd_same, by show 0 < 3; decide, by show 3 < 1073741824; decide, fun kk vt Hg hvt hSg kg => ?_⟩
              have tsg := hSg0.ts kg
              obtain ⟨dt, tdt⟩ : ∃ dt, Tp Hg vt dt := by
                have hm := List.mem_of_getElem? hvt
                simp only [List.mem_cons, List.not_mem_nil, or_false] at hm
                rcases hm with z | z | z
                · rw [z]; exact ⟨_, (hwf.mono (e80.trans e8').ts).mono tsg⟩
                · rw [z]; exact ⟨_, (Tps.mk' ht0' .nil).mono tsg⟩
                · rw [z]; exact ⟨_, .str _⟩
              refine ⟨fv, vt, dt, rfl, tdt, fun hg => absurd hg hnG, fun hg => absurd hg hnG, fun _ r6 Hh eh hn6 hr6 => ?_⟩
              trivial
              refine ⟨(by show 2 ≤ sizeLine; decide), fun l9 hl9 => ?_⟩
              have e9' := L2.Same.of_new hl9 (.lst [.str "size", .int fv])
              have hbl : Bd 1 (.list [.str "size", .int fv]) := bdl tag_size (.int fv)
              refine ⟨_, _, dpl (e9' _ _ hr6) (.int fv), dpl upd_same (.int fv), hbl.shaped (by decide), hbl.shaped (by decide), ?_⟩
              rw [eqv_same hbl]
              trivial
              exact ⟨_, _, _, _, _, _, _, _, _, _, _, rfl, hSg.same (eh.trans e9')⟩
        · rw [decide_eq_false ho13]
          refine iteF ?_
          trivial
          refine ⟨by decide, by decide, ?_⟩
          refine for_range (n := 3) (fun m σ Hx => ∃ (v10 v11 : Option V), σ = [some (.ref a), some (.ref s), some (.int (0 + (i : Int))), some (.ref cal), some (.ref c), some (.ref tr), some (.ref due), some (.int (1 + rn)), some (.ref wd), some (.int o), v10, v11, u12] ∧ Src Hx s ∧ Tp Hx (.ref wd) d)
            ⟨_, _, rfl, hS15, hwd15⟩ (fun m σ Hx _ h => ?_) (fun σ Hx h => ?_)
          · obtain ⟨v10, v11, rfl, hSx, hwx⟩ := h
            trivial
            refine ⟨s, .ref wd, d, n, 12, by rw [hn]; rfl, hSx, by omega, by omega, hwx, hWd.w, hWd.b, by decide, fun r Ha hSa ka hE => ?_⟩
            obtain ⟨d', td, wdd, bdd⟩ := hE
            have hwa := hwx.mono (hSx.ts ka)
            trivial
            refine ⟨1 + rn, r, d', rfl, td, fun _ hp r5 Hb eb hn5 hr5 => ?_, fun _ hp r5 Hb eb hn5 hr5 => ?_, fun hg => absurd hGn hg⟩
            · trivial
              refine ⟨r, d', rfl, td.mono eb.ts, wdd.mono (by decide), bdd.mono (by decide), fun Hc ec => ?_⟩
              trivial
              refine ⟨rfl, _, rfl, ?_⟩
              have hl : lawSize d' = 1 + rn := (size_eq hGn.1 hGn.2).mp hp
              rw [decide_eq_true (show V.int (lawSize d') = V.int (1 + rn) by rw [hl])]
              refine iteT ?_
              trivial
              refine ⟨(by show 2 ≤ sizeLine; decide), fun l6 hl6 => ?_⟩
              have e6' := L2.Same.of_new hl6 (.lst [.str "wood", r])
              have ebc := (eb.trans ec).trans e6'
              have hbl : Bd 15 (.list [.str "wood", d']) := bdl tag_wood bdd
              refine ⟨_, _, dpl ((ec.trans e6') _ _ hr5) (td.mono ebc.ts), dpl upd_same (td.mono ebc.ts), hbl.shaped (by decide), hbl.shaped (by decide), ?_⟩
              rw [eqv_same hbl]
              trivial
              exact ⟨hSa.same ebc, hwa.mono ebc.ts⟩
            · trivial
              refine ⟨r, d', rfl, td.mono eb.ts, wdd.mono (by decide), bdd.mono (by decide), fun Hc ec => ?_⟩
              trivial
              refine ⟨rfl, _, rfl, ?_⟩
              have hl : ¬ lawSize d' = 1 + rn := fun z => hp ((size_eq hGn.1 hGn.2).mpr z)
              rw [decide_eq_false (show ¬ V.int (lawSize d') = V.int (1 + rn) from fun z => hl (V.int.inj z))]
              refine iteF ?_
              trivial
              refine ⟨(by show 2 ≤ sizeLine; decide), fun l6 hl6 => ?_⟩
              have e6' := L2.Same.of_new hl6 (.lst [.str "shape", .int 0])
              have ebc := (eb.trans ec).trans e6'
              have hbl : Bd 1 (.list [.str "shape", .int 0]) := bdl tag_shape (.int 0)
              refine ⟨_, _, dpl ((ec.trans e6') _ _ hr5) (.int 0), dpl upd_same (.int 0), hbl.shaped (by decide), hbl.shaped (by decide), ?_⟩
              rw [eqv_same hbl]
              trivial
              exact ⟨hSa.same ebc, hwa.mono ebc.ts⟩
          · obtain ⟨v10, v11, rfl, hSx, hwx⟩ := h
            trivial
            refine ⟨(by show CPow 10 9; unfold CPow; decide), ?_⟩
            refine ⟨(by show 4 ≤ sizeLine; decide), fun l7 hl7 => ?_⟩
            have e7' := L2.Same.of_new hl7 (.lst [.int 0, .int 13, .int (-1), .int (10 ^ (9 : Int).toNat)])
            refine ⟨s, l7, _, rfl, hSx.same e7', hSx.ne' hl7, upd_same, by show 0 < 4; decide, by show 4 < 1073741824; decide, fun jj vf Hf hvf hSf kf => ?_⟩
            obtain ⟨fv, rfl, hnG⟩ : ∃ fv : Int, vf = .int fv ∧ ¬ Good fv := by
              have hm := List.mem_of_getElem? hvf
              simp only [List.mem_cons, List.not_mem_nil, or_false] at hm
              rcases hm with z | z | z | z
              · exact ⟨_, z, fun g => absurd g.1 (by decide)⟩
              · exact ⟨_, z, fun g => absurd g.2 (by decide)⟩
              · exact ⟨_, z, fun g => absurd g.1 (by decide)⟩
              · exact ⟨_, z, fun g => absurd g.2 (by decide)⟩
            have hwf := (hwx.mono e7'.ts).mono ((hSx.same e7').ts kf)
            trivial
            refine ⟨(by show 0 ≤ sizeLine; decide), fun t0 ht0 => ?_⟩
            trivial
            refine ⟨(by show 3 ≤ sizeLine; decide), fun l8 hl8 => ?_⟩
            have e80 := L2.Same.of_new ht0 (.tup [])
            have e8' := L2.Same.of_new hl8 (.lst [.ref wd, .ref t0, .str "0"])
            have ht0' := e8' _ _ (upd_same (H := Hf) (a := t0) (o := .tup []))
            have hSg0 := hSf.same (e80.trans e8')
            refine ⟨s, l8, _, rfl, hSg0, (hSf.same e80).ne' hl8, upd_same, by show 0 < 3; decide, by show 3 < 1073741824; decide, fun kk vt Hg hvt hSg kg => ?_⟩
            have tsg := hSg0.ts kg
            obtain ⟨dt, tdt⟩ : ∃ dt, Tp Hg vt dt := by
              have hm := List.mem_of_getElem? hvt
              simp only [List.mem_cons, List.not_mem_nil, or_false] at hm
              rcases hm with z | z | z
              · rw [z]; exact ⟨_, (hwf.mono (e80.trans e8').ts).mono tsg⟩
              · rw [z]; exact ⟨_, (Tps.mk' ht0' .nil).mono tsg⟩
              · rw [z]; exact ⟨_, .str _⟩
            refine ⟨fv, vt, dt, rfl, tdt, fun hg => absurd hg hnG, fun hg => absurd hg hnG, fun _ r6 Hh eh hn6 hr6 => ?_⟩
            trivial
            refine ⟨(by show 2 ≤ sizeLine; decide), fun l9 hl9 => ?_⟩
            have e9' := L2.Same.of_new hl9 (.lst [.str "size", .int fv])
            have hbl : Bd 1 (.list [.str "size", .int fv]) := bdl tag_size (.int fv)
            refine ⟨_, _, dpl (e9' _ _ hr6) (.int fv), dpl upd_same (.int fv), hbl.shaped (by decide), hbl.shaped (by decide), ?_⟩
            rw [eqv_same hbl]
            trivial
            exact ⟨_, _, _, _, _, _, _, _, _, _, _, rfl, hSg.same (eh.trans e9')⟩
      · rw [decide_eq_false ho0]
        trivial
        trivial
        refine ⟨by decide, by decide, ?_⟩
        refine for_range (n := 3) (fun m σ Hx => ∃ (v10 v11 : Option V), σ = [some (.ref a), some (.ref s), some (.int (0 + (i : Int))), some (.ref cal), some (.ref c), some (.ref tr), some (.ref due), some (.int (1 + rn)), some (.ref wd), some (.int o), v10, v11, u12] ∧ Src Hx s ∧ Tp Hx (.ref wd) d)
          ⟨_, _, rfl, hS15, hwd15⟩ (fun m σ Hx _ h => ?_) (fun σ Hx h => ?_)
        · obtain ⟨v10, v11, rfl, hSx, hwx⟩ := h
          trivial
          refine ⟨s, .ref wd, d, n, 12, by rw [hn]; rfl, hSx, by omega, by omega, hwx, hWd.w, hWd.b, by decide, fun r Ha hSa ka hE => ?_⟩
          obtain ⟨d', td, wdd, bdd⟩ := hE
          have hwa := hwx.mono (hSx.ts ka)
          trivial
          refine ⟨1 + rn, r, d', rfl, td, fun _ hp r5 Hb eb hn5 hr5 => ?_, fun _ hp r5 Hb eb hn5 hr5 => ?_, fun hg => absurd hGn hg⟩
          · trivial
            refine ⟨r, d', rfl, td.mono eb.ts, wdd.mono (by decide), bdd.mono (by decide), fun Hc ec => ?_⟩
            trivial
            refine ⟨rfl, _, rfl, ?_⟩
            have hl : lawSize d' = 1 + rn := (size_eq hGn.1 hGn.2).mp hp
            rw [decide_eq_true (show V.int (lawSize d') = V.int (1 + rn) by rw [hl])]
            refine iteT ?_
            trivial
            refine ⟨(by show 2 ≤ sizeLine; decide), fun l6 hl6 => ?_⟩
            have e6' := L2.Same.of_new hl6 (.lst [.str "wood", r])
            have ebc := (eb.trans ec).trans e6'
            have hbl : Bd 15 (.list [.str "wood", d']) := bdl tag_wood bdd
            refine ⟨_, _, dpl ((ec.trans e6') _ _ hr5) (td.mono ebc.ts), dpl upd_same (td.mono ebc.ts), hbl.shaped (by decide), hbl.shaped (by decide), ?_⟩
            rw [eqv_same hbl]
            trivial
            exact ⟨hSa.same ebc, hwa.mono ebc.ts⟩
          · trivial
            refine ⟨r, d', rfl, td.mono eb.ts, wdd.mono (by decide), bdd.mono (by decide), fun Hc ec => ?_⟩
            trivial
            refine ⟨rfl, _, rfl, ?_⟩
            have hl : ¬ lawSize d' = 1 + rn := fun z => hp ((size_eq hGn.1 hGn.2).mpr z)
            rw [decide_eq_false (show ¬ V.int (lawSize d') = V.int (1 + rn) from fun z => hl (V.int.inj z))]
            refine iteF ?_
            trivial
            refine ⟨(by show 2 ≤ sizeLine; decide), fun l6 hl6 => ?_⟩
            have e6' := L2.Same.of_new hl6 (.lst [.str "shape", .int 0])
            have ebc := (eb.trans ec).trans e6'
            have hbl : Bd 1 (.list [.str "shape", .int 0]) := bdl tag_shape (.int 0)
            refine ⟨_, _, dpl ((ec.trans e6') _ _ hr5) (.int 0), dpl upd_same (.int 0), hbl.shaped (by decide), hbl.shaped (by decide), ?_⟩
            rw [eqv_same hbl]
            trivial
            exact ⟨hSa.same ebc, hwa.mono ebc.ts⟩
        · obtain ⟨v10, v11, rfl, hSx, hwx⟩ := h
          trivial
          refine ⟨(by show CPow 10 9; unfold CPow; decide), ?_⟩
          refine ⟨(by show 4 ≤ sizeLine; decide), fun l7 hl7 => ?_⟩
          have e7' := L2.Same.of_new hl7 (.lst [.int 0, .int 13, .int (-1), .int (10 ^ (9 : Int).toNat)])
          refine ⟨s, l7, _, rfl, hSx.same e7', hSx.ne' hl7, upd_same, by show 0 < 4; decide, by show 4 < 1073741824; decide, fun jj vf Hf hvf hSf kf => ?_⟩
          obtain ⟨fv, rfl, hnG⟩ : ∃ fv : Int, vf = .int fv ∧ ¬ Good fv := by
            have hm := List.mem_of_getElem? hvf
            simp only [List.mem_cons, List.not_mem_nil, or_false] at hm
            rcases hm with z | z | z | z
            · exact ⟨_, z, fun g => absurd g.1 (by decide)⟩
            · exact ⟨_, z, fun g => absurd g.2 (by decide)⟩
            · exact ⟨_, z, fun g => absurd g.1 (by decide)⟩
            · exact ⟨_, z, fun g => absurd g.2 (by decide)⟩
          have hwf := (hwx.mono e7'.ts).mono ((hSx.same e7').ts kf)
          trivial
          refine ⟨(by show 0 ≤ sizeLine; decide), fun t0 ht0 => ?_⟩
          trivial
          refine ⟨(by show 3 ≤ sizeLine; decide), fun l8 hl8 => ?_⟩
          have e80 := L2.Same.of_new ht0 (.tup [])
          have e8' := L2.Same.of_new hl8 (.lst [.ref wd, .ref t0, .str "0"])
          have ht0' := e8' _ _ (upd_same (H := Hf) (a := t0) (o := .tup []))
          have hSg0 := hSf.same (e80.trans e8')
          refine ⟨s, l8, _, rfl, hSg0, (hSf.same e80).ne' hl8, upd_same, by show 0 < 3; decide, by show 3 < 1073741824; decide, fun kk vt Hg hvt hSg kg => ?_⟩
          have tsg := hSg0.ts kg
          obtain ⟨dt, tdt⟩ : ∃ dt, Tp Hg vt dt := by
            have hm := List.mem_of_getElem? hvt
            simp only [List.mem_cons, List.not_mem_nil, or_false] at hm
            rcases hm with z | z | z
            · rw [z]; exact ⟨_, (hwf.mono (e80.trans e8').ts).mono tsg⟩
            · rw [z]; exact ⟨_, (Tps.mk' ht0' .nil).mono tsg⟩
            · rw [z]; exact ⟨_, .str _⟩
          refine ⟨fv, vt, dt, rfl, tdt, fun hg => absurd hg hnG, fun hg => absurd hg hnG, fun _ r6 Hh eh hn6 hr6 => ?_⟩
          trivial
          refine ⟨(by show 2 ≤ sizeLine; decide), fun l9 hl9 => ?_⟩
          have e9' := L2.Same.of_new hl9 (.lst [.str "size", .int fv])
          have hbl : Bd 1 (.list [.str "size", .int fv]) := bdl tag_size (.int fv)
          refine ⟨_, _, dpl (e9' _ _ hr6) (.int fv), dpl upd_same (.int fv), hbl.shaped (by decide), hbl.shaped (by decide), ?_⟩
          rw [eqv_same hbl]
          trivial
          exact ⟨_, _, _, _, _, _, _, _, _, _, _, rfl, hSg.same (eh.trans e9')⟩
  · obtain ⟨u2, u3, u4, u5, u6, u7, u8, u9, u10, u11, u12, rfl, hS1⟩ := h
    exact q _
end
end G93

set_option Elab.async false
set_option linter.all false
set_option maxRecDepth 100000
set_option maxHeartbeats 8000000
/-! the program's top, and the row -/
namespace G93
open PySem PySem.Spec PyProof.Rows L2
theorem none_ok {P : Program} {w : World} {K : PySem.W.Frag} {mg : Str → Option Value} {base : Heap} {k : Nat} {f : Addr} {fd : FuncData} {ps : List Str} {sp : Sp} (no : ∀ vs H Q E, ¬ sp vs H Q E) : FnOk P w K mg base CX0 k f fd ps sp :=
  ⟨fun vs H Q E h => absurd h (no vs H Q E), fun A outer s H args us vs Q E _ _ _ _ h => absurd h (no vs H Q E)⟩
theorem all_mk {l : PySem.W.OpenLaw} {w : World} {K : PySem.W.Frag} {h : Heap} {mg : Str → Option Value} {fa : Addr} (X : K.In h) (G : h.Ns mainGlobals mg) (hfa : mg "law" = some (.ref fa))
    {f0 f1 f2 f3 f4 f5 f6 f7 f8 f9 f10 f11 f12 f13 f14 f15 f16 f17 f18 f19 f20 f21 f22 f23 f24 f25 f26 f27 f28 f29 fC C D fI cda cc Cb Cs Nb Ns : Addr}
    {od0 an0 od1 an1 od2 an2 od3 an3 od4 an4 od5 an5 od6 an6 od7 an7 od8 an8 od9 an9 od10 an10 od11 an11 od12 an12 od13 an13 od14 an14 od15 an15 od16 an16 od17 an17 od18 an18 od19 an19 od20 an20 od21 an21 od22 an22 od23 an23 od24 an24 od25 an25 od26 an26 od27 an27 od28 an28 od29 an29 odC anC odI anI cdd odCe ddb dds : Option Addr} {sl0 sl1 sl2 sl3 sl4 sl5 sl6 sl7 sl8 sl9 sl10 sl11 sl12 sl13 sl14 sl15 sl16 sl17 sl18 sl19 sl20 sl21 sl22 sl23 sl24 sl25 sl26 sl27 sl28 sl29 slC slI ccs slCe : Array (Option Value)} {oc0 kV0 dc0 pm0 cd0 ct0 oc1 kV1 dc1 pm1 cd1 ct1 oc2 kV2 dc2 pm2 cd2 ct2 oc3 kV3 dc3 pm3 cd3 ct3 oc4 kV4 dc4 pm4 cd4 ct4 oc5 kV5 dc5 pm5 cd5 ct5 oc6 kV6 dc6 pm6 cd6 ct6 oc7 kV7 dc7 pm7 cd7 ct7 oc8 kV8 dc8 pm8 cd8 ct8 oc9 kV9 dc9 pm9 cd9 ct9 oc10 kV10 dc10 pm10 cd10 ct10 oc11 kV11 dc11 pm11 cd11 ct11 oc12 kV12 dc12 pm12 cd12 ct12 oc13 kV13 dc13 pm13 cd13 ct13 oc14 kV14 dc14 pm14 cd14 ct14 oc15 kV15 dc15 pm15 cd15 ct15 oc16 kV16 dc16 pm16 cd16 ct16 oc17 kV17 dc17 pm17 cd17 ct17 oc18 kV18 dc18 pm18 cd18 ct18 oc19 kV19 dc19 pm19 cd19 ct19 oc20 kV20 dc20 pm20 cd20 ct20 oc21 kV21 dc21 pm21 cd21 ct21 oc22 kV22 dc22 pm22 cd22 ct22 oc23 kV23 dc23 pm23 cd23 ct23 oc24 kV24 dc24 pm24 cd24 ct24 oc25 kV25 dc25 pm25 cd25 ct25 oc26 kV26 dc26 pm26 cd26 ct26 oc27 kV27 dc27 pm27 cd27 ct27 oc28 kV28 dc28 pm28 cd28 ct28 oc29 kV29 dc29 pm29 cd29 ct29 ocC kVC dcC pmC cdC ctC ocI dcI pmI ctI ccl oCe : Value} {t_MOST_LEAVES_shapes t_MOST_JOINTS t_LEAST_GROUP t_MOST_LEAVES_calendars t_MOST_DAYS tf : Tok}
    {vsI : Array Value} {file : Str} {clD : _} {nmb qb nms qs : Str} {bsb bss subb subs : List Value} {snb sns : List Str} {abb abs_ : Bool} {colb cols : Option Bool} {m0b m1b m2b m3b m5b m0s m1s m2s m3s m5s : Option Value}
    (a0 : PySem.W.nsIn K mainGlobals "is_number" = some (some (.ref f0)))
    (l0 : K.lookup f0 = some ⟨oc0, od0, .func (PySem.W.fnOf "is_number" "is_number" (defArgs s_is_number) (defBody s_is_number) (defScope s_is_number) .none kV0 dc0 pm0 an0 cd0 ct0), sl0⟩)
    (c0 : PySem.W.codeIn K cd0 "is_number" = true)
    (k0 : PySem.W.keepIn K (.ref f0) = true)
    (a1 : PySem.W.nsIn K mainGlobals "with_newborn" = some (some (.ref f1)))
    (l1 : K.lookup f1 = some ⟨oc1, od1, .func (PySem.W.fnOf "with_newborn" "with_newborn" (defArgs s_with_newborn) (defBody s_with_newborn) (defScope s_with_newborn) .none kV1 dc1 pm1 an1 cd1 ct1), sl1⟩)
    (c1 : PySem.W.codeIn K cd1 "with_newborn" = true)
    (k1 : PySem.W.keepIn K (.ref f1) = true)
    (a2 : PySem.W.nsIn K mainGlobals "behind_row" = some (some (.ref f2)))
    (l2 : K.lookup f2 = some ⟨oc2, od2, .func (PySem.W.fnOf "behind_row" "behind_row" (defArgs s_behind_row) (defBody s_behind_row) (defScope s_behind_row) .none kV2 dc2 pm2 an2 cd2 ct2), sl2⟩)
    (c2 : PySem.W.codeIn K cd2 "behind_row" = true)
    (k2 : PySem.W.keepIn K (.ref f2) = true)
    (a3 : PySem.W.nsIn K mainGlobals "is_group" = some (some (.ref f3)))
    (l3 : K.lookup f3 = some ⟨oc3, od3, .func (PySem.W.fnOf "is_group" "is_group" (defArgs s_is_group) (defBody s_is_group) (defScope s_is_group) .none kV3 dc3 pm3 an3 cd3 ct3), sl3⟩)
    (c3 : PySem.W.codeIn K cd3 "is_group" = true)
    (k3 : PySem.W.keepIn K (.ref f3) = true)
    (a4 : PySem.W.nsIn K mainGlobals "is_row" = some (some (.ref f4)))
    (l4 : K.lookup f4 = some ⟨oc4, od4, .func (PySem.W.fnOf "is_row" "is_row" (defArgs s_is_row) (defBody s_is_row) (defScope s_is_row) .none kV4 dc4 pm4 an4 cd4 ct4), sl4⟩)
    (c4 : PySem.W.codeIn K cd4 "is_row" = true)
    (k4 : PySem.W.keepIn K (.ref f4) = true)
    (a5 : PySem.W.nsIn K mainGlobals "first_bad" = some (some (.ref f5)))
    (l5 : K.lookup f5 = some ⟨oc5, od5, .func (PySem.W.fnOf "first_bad" "first_bad" (defArgs s_first_bad) (defBody s_first_bad) (defScope s_first_bad) .none kV5 dc5 pm5 an5 cd5 ct5), sl5⟩)
    (c5 : PySem.W.codeIn K cd5 "first_bad" = true)
    (k5 : PySem.W.keepIn K (.ref f5) = true)
    (a6 : PySem.W.nsIn K mainGlobals "want_tree" = some (some (.ref f6)))
    (l6 : K.lookup f6 = some ⟨oc6, od6, .func (PySem.W.fnOf "want_tree" "want_tree" (defArgs s_want_tree) (defBody s_want_tree) (defScope s_want_tree) .none kV6 dc6 pm6 an6 cd6 ct6), sl6⟩)
    (c6 : PySem.W.codeIn K cd6 "want_tree" = true)
    (k6 : PySem.W.keepIn K (.ref f6) = true)
    (a7 : PySem.W.nsIn K mainGlobals "shape_of" = some (some (.ref f7)))
    (l7 : K.lookup f7 = some ⟨oc7, od7, .func (PySem.W.fnOf "shape_of" "shape_of" (defArgs s_shape_of) (defBody s_shape_of) (defScope s_shape_of) .none kV7 dc7 pm7 an7 cd7 ct7), sl7⟩)
    (c7 : PySem.W.codeIn K cd7 "shape_of" = true)
    (k7 : PySem.W.keepIn K (.ref f7) = true)
    (a8 : PySem.W.nsIn K mainGlobals "leaves_of" = some (some (.ref f8)))
    (l8 : K.lookup f8 = some ⟨oc8, od8, .func (PySem.W.fnOf "leaves_of" "leaves_of" (defArgs s_leaves_of) (defBody s_leaves_of) (defScope s_leaves_of) .none kV8 dc8 pm8 an8 cd8 ct8), sl8⟩)
    (c8 : PySem.W.codeIn K cd8 "leaves_of" = true)
    (k8 : PySem.W.keepIn K (.ref f8) = true)
    (a9 : PySem.W.nsIn K mainGlobals "wood_size" = some (some (.ref f9)))
    (l9 : K.lookup f9 = some ⟨oc9, od9, .func (PySem.W.fnOf "wood_size" "wood_size" (defArgs s_wood_size) (defBody s_wood_size) (defScope s_wood_size) .none kV9 dc9 pm9 an9 cd9 ct9), sl9⟩)
    (c9 : PySem.W.codeIn K cd9 "wood_size" = true)
    (k9 : PySem.W.keepIn K (.ref f9) = true)
    (a10 : PySem.W.nsIn K mainGlobals "made_wood" = some (some (.ref f10)))
    (l10 : K.lookup f10 = some ⟨oc10, od10, .func (PySem.W.fnOf "made_wood" "made_wood" (defArgs s_made_wood) (defBody s_made_wood) (defScope s_made_wood) .none kV10 dc10 pm10 an10 cd10 ct10), sl10⟩)
    (c10 : PySem.W.codeIn K cd10 "made_wood" = true)
    (k10 : PySem.W.keepIn K (.ref f10) = true)
    (a11 : PySem.W.nsIn K mainGlobals "is_pattern" = some (some (.ref f11)))
    (l11 : K.lookup f11 = some ⟨oc11, od11, .func (PySem.W.fnOf "is_pattern" "is_pattern" (defArgs s_is_pattern) (defBody s_is_pattern) (defScope s_is_pattern) .none kV11 dc11 pm11 an11 cd11 ct11), sl11⟩)
    (c11 : PySem.W.codeIn K cd11 "is_pattern" = true)
    (k11 : PySem.W.keepIn K (.ref f11) = true)
    (a12 : PySem.W.nsIn K mainGlobals "counts_of" = some (some (.ref f12)))
    (l12 : K.lookup f12 = some ⟨oc12, od12, .func (PySem.W.fnOf "counts_of" "counts_of" (defArgs s_counts_of) (defBody s_counts_of) (defScope s_counts_of) .none kV12 dc12 pm12 an12 cd12 ct12), sl12⟩)
    (c12 : PySem.W.codeIn K cd12 "counts_of" = true)
    (k12 : PySem.W.keepIn K (.ref f12) = true)
    (a13 : PySem.W.nsIn K mainGlobals "made_calendar" = some (some (.ref f13)))
    (l13 : K.lookup f13 = some ⟨oc13, od13, .func (PySem.W.fnOf "made_calendar" "made_calendar" (defArgs s_made_calendar) (defBody s_made_calendar) (defScope s_made_calendar) .none kV13 dc13 pm13 an13 cd13 ct13), sl13⟩)
    (c13 : PySem.W.codeIn K cd13 "made_calendar" = true)
    (k13 : PySem.W.keepIn K (.ref f13) = true)
    (a14 : PySem.W.nsIn K mainGlobals "_law_pool" = some (some (.ref f14)))
    (l14 : K.lookup f14 = some ⟨oc14, od14, .func (PySem.W.fnOf "_law_pool" "_law_pool" (defArgs s_law_pool) (defBody s_law_pool) (defScope s_law_pool) .none kV14 dc14 pm14 an14 cd14 ct14), sl14⟩)
    (c14 : PySem.W.codeIn K cd14 "_law_pool" = true)
    (k14 : PySem.W.keepIn K (.ref f14) = true)
    (a15 : PySem.W.nsIn K mainGlobals "_law_take" = some (some (.ref f15)))
    (l15 : K.lookup f15 = some ⟨oc15, od15, .func (PySem.W.fnOf "_law_take" "_law_take" (defArgs s_law_take) (defBody s_law_take) (defScope s_law_take) .none kV15 dc15 pm15 an15 cd15 ct15), sl15⟩)
    (c15 : PySem.W.codeIn K cd15 "_law_take" = true)
    (k15 : PySem.W.keepIn K (.ref f15) = true)
    (a16 : PySem.W.nsIn K mainGlobals "_law_one" = some (some (.ref f16)))
    (l16 : K.lookup f16 = some ⟨oc16, od16, .func (PySem.W.fnOf "_law_one" "_law_one" (defArgs s_law_one) (defBody s_law_one) (defScope s_law_one) .none kV16 dc16 pm16 an16 cd16 ct16), sl16⟩)
    (c16 : PySem.W.codeIn K cd16 "_law_one" = true)
    (k16 : PySem.W.keepIn K (.ref f16) = true)
    (a17 : PySem.W.nsIn K mainGlobals "_law_after" = some (some (.ref f17)))
    (l17 : K.lookup f17 = some ⟨oc17, od17, .func (PySem.W.fnOf "_law_after" "_law_after" (defArgs s_law_after) (defBody s_law_after) (defScope s_law_after) .none kV17 dc17 pm17 an17 cd17 ct17), sl17⟩)
    (c17 : PySem.W.codeIn K cd17 "_law_after" = true)
    (k17 : PySem.W.keepIn K (.ref f17) = true)
    (a18 : PySem.W.nsIn K mainGlobals "_law_pattern" = some (some (.ref f18)))
    (l18 : K.lookup f18 = some ⟨oc18, od18, .func (PySem.W.fnOf "_law_pattern" "_law_pattern" (defArgs s_law_pattern) (defBody s_law_pattern) (defScope s_law_pattern) .none kV18 dc18 pm18 an18 cd18 ct18), sl18⟩)
    (c18 : PySem.W.codeIn K cd18 "_law_pattern" = true)
    (k18 : PySem.W.keepIn K (.ref f18) = true)
    (a19 : PySem.W.nsIn K mainGlobals "_law_drawn" = some (some (.ref f19)))
    (l19 : K.lookup f19 = some ⟨oc19, od19, .func (PySem.W.fnOf "_law_drawn" "_law_drawn" (defArgs s_law_drawn) (defBody s_law_drawn) (defScope s_law_drawn) .none kV19 dc19 pm19 an19 cd19 ct19), sl19⟩)
    (c19 : PySem.W.codeIn K cd19 "_law_drawn" = true)
    (k19 : PySem.W.keepIn K (.ref f19) = true)
    (a20 : PySem.W.nsIn K mainGlobals "_law_made" = some (some (.ref f20)))
    (l20 : K.lookup f20 = some ⟨oc20, od20, .func (PySem.W.fnOf "_law_made" "_law_made" (defArgs s_law_made) (defBody s_law_made) (defScope s_law_made) .none kV20 dc20 pm20 an20 cd20 ct20), sl20⟩)
    (c20 : PySem.W.codeIn K cd20 "_law_made" = true)
    (k20 : PySem.W.keepIn K (.ref f20) = true)
    (a21 : PySem.W.nsIn K mainGlobals "_law_shapes" = some (some (.ref f21)))
    (l21 : K.lookup f21 = some ⟨oc21, od21, .func (PySem.W.fnOf "_law_shapes" "_law_shapes" (defArgs s_law_shapes) (defBody s_law_shapes) (defScope s_law_shapes) .none kV21 dc21 pm21 an21 cd21 ct21), sl21⟩)
    (c21 : PySem.W.codeIn K cd21 "_law_shapes" = true)
    (k21 : PySem.W.keepIn K (.ref f21) = true)
    (a22 : PySem.W.nsIn K mainGlobals "_law_tree" = some (some (.ref f22)))
    (l22 : K.lookup f22 = some ⟨oc22, od22, .func (PySem.W.fnOf "_law_tree" "_law_tree" (defArgs s_law_tree) (defBody s_law_tree) (defScope s_law_tree) .none kV22 dc22 pm22 an22 cd22 ct22), sl22⟩)
    (c22 : PySem.W.codeIn K cd22 "_law_tree" = true)
    (k22 : PySem.W.keepIn K (.ref f22) = true)
    (a23 : PySem.W.nsIn K mainGlobals "_law_wood" = some (some (.ref f23)))
    (l23 : K.lookup f23 = some ⟨oc23, od23, .func (PySem.W.fnOf "_law_wood" "_law_wood" (defArgs s_law_wood) (defBody s_law_wood) (defScope s_law_wood) .none kV23 dc23 pm23 an23 cd23 ct23), sl23⟩)
    (c23 : PySem.W.codeIn K cd23 "_law_wood" = true)
    (k23 : PySem.W.keepIn K (.ref f23) = true)
    (a24 : PySem.W.nsIn K mainGlobals "_law_leaves" = some (some (.ref f24)))
    (l24 : K.lookup f24 = some ⟨oc24, od24, .func (PySem.W.fnOf "_law_leaves" "_law_leaves" (defArgs s_law_leaves) (defBody s_law_leaves) (defScope s_law_leaves) .none kV24 dc24 pm24 an24 cd24 ct24), sl24⟩)
    (c24 : PySem.W.codeIn K cd24 "_law_leaves" = true)
    (k24 : PySem.W.keepIn K (.ref f24) = true)
    (a25 : PySem.W.nsIn K mainGlobals "_law_is_wood" = some (some (.ref f25)))
    (l25 : K.lookup f25 = some ⟨oc25, od25, .func (PySem.W.fnOf "_law_is_wood" "_law_is_wood" (defArgs s_law_is_wood) (defBody s_law_is_wood) (defScope s_law_is_wood) .none kV25 dc25 pm25 an25 cd25 ct25), sl25⟩)
    (c25 : PySem.W.codeIn K cd25 "_law_is_wood" = true)
    (k25 : PySem.W.keepIn K (.ref f25) = true)
    (a26 : PySem.W.nsIn K mainGlobals "_law_bent" = some (some (.ref f26)))
    (l26 : K.lookup f26 = some ⟨oc26, od26, .func (PySem.W.fnOf "_law_bent" "_law_bent" (defArgs s_law_bent) (defBody s_law_bent) (defScope s_law_bent) .none kV26 dc26 pm26 an26 cd26 ct26), sl26⟩)
    (c26 : PySem.W.codeIn K cd26 "_law_bent" = true)
    (k26 : PySem.W.keepIn K (.ref f26) = true)
    (a27 : PySem.W.nsIn K mainGlobals "_law_told" = some (some (.ref f27)))
    (l27 : K.lookup f27 = some ⟨oc27, od27, .func (PySem.W.fnOf "_law_told" "_law_told" (defArgs s_law_told) (defBody s_law_told) (defScope s_law_told) .none kV27 dc27 pm27 an27 cd27 ct27), sl27⟩)
    (c27 : PySem.W.codeIn K cd27 "_law_told" = true)
    (k27 : PySem.W.keepIn K (.ref f27) = true)
    (a28 : PySem.W.nsIn K mainGlobals "_law_twelve" = some (some (.ref f28)))
    (l28 : K.lookup f28 = some ⟨oc28, od28, .func (PySem.W.fnOf "_law_twelve" "_law_twelve" (defArgs s_law_twelve) (defBody s_law_twelve) (defScope s_law_twelve) .none kV28 dc28 pm28 an28 cd28 ct28), sl28⟩)
    (c28 : PySem.W.codeIn K cd28 "_law_twelve" = true)
    (k28 : PySem.W.keepIn K (.ref f28) = true)
    (a29 : PySem.W.nsIn K mainGlobals "law" = some (some (.ref f29)))
    (l29 : K.lookup f29 = some ⟨oc29, od29, .func (PySem.W.fnOf "law" "law" (defArgs s_law) (defBody s_law) (defScope s_law) .none kV29 dc29 pm29 an29 cd29 ct29), sl29⟩)
    (c29 : PySem.W.codeIn K cd29 "law" = true)
    (k29 : PySem.W.keepIn K (.ref f29) = true)
    (aC : PySem.W.nsIn K mainGlobals "Calendar" = some (some (.ref C)))
    (aI : PySem.W.findIn K (.ref C) "__init__" = some (some (.ref fC)))
    (iI : PySem.W.isFn K (.ref fC) = true)
    (lI : K.lookup fC = some ⟨ocC, odC, .func (PySem.W.fnOf "__init__" "Calendar.__init__" (defArgs s_init) (defBody s_init) (defScope s_init) .none kVC dcC pmC anC cdC ctC), slC⟩)
    (cI : PySem.W.codeIn K cdC "Calendar.__init__" = true)
    (kI : PySem.W.keepIn K (.ref fC) = true)
    (pgC : PySem.W.plainGet K C Str.empty = true)
    (hdC : PySem.W.hasDictIn K C = true)
    (poC : PySem.W.plainOver K C = true)
    (saC : PySem.W.findIn K (.ref C) "__setattr__" = some (some (.builtin "object.__setattr__")))
    (mkC : PySem.W.makesIn K C = true)
    (kcC : PySem.W.keepIn K (.ref C) = true)
    (nBo : PySem.W.findIn K (.ref C) "born" = some none)
    (nDa : PySem.W.findIn K (.ref C) "days" = some none)
    (aR : PySem.W.nsIn K mainGlobals "Refused" = some (some (.ref D)))
    (iR : PySem.W.findIn K (.ref D) "__init__" = some (some (.ref fI)))
    (fI_l : K.lookup fI = some ⟨ocI, odI, .func (PySem.W.ksFn "__init__" "Refused.__init__" eA eB eS .none .none dcI pmI anI (.ref cda) ctI cc), slI⟩)
    (fI_c : PySem.W.codeIn K (.ref cda) "Refused.__init__" = true)
    (fI_k : K.lookup cda = some ⟨ccl, cdd, .fields vsI, ccs⟩)
    (fI_v : vsI[2]? = some (.str file tf))
    (fI_f : ((l.prog.main.file : Str) == file) = true)
    (fI_cell : K.lookup cc = some ⟨oCe, odCe, .cell (some (.ref D)), slCe⟩)
    (fI_cD : PySem.W.clsIn K D = some clD)
    (fI_any : PySem.W.nsIn K cStatics "thirdparty.any" = some none)
    (fI_top : (l.prog.main.scope.names.lookup ("super" : Str)).isSome = false)
    (fI_t : PySem.W.typeIn K (.ref fI) = some (.type "function"))
    (ab : PySem.W.nsIn K mainGlobals "BadSize" = some (some (.ref Cb)))
    (xb : K.lookup Cb = some (excClassObj nmb qb Cb Nb bsb [.ref D, .type "ValueError", .type "Exception", .type "BaseException", .type "object"] true snb subb abb colb ddb m0b m1b m2b m3b m5b "ValueError.__new__"))
    (sab : PySem.W.findIn K (.ref Cb) "__setattr__" = some (some (.builtin "object.__setattr__")))
    (inb : PySem.W.findIn K (.ref Cb) "__init__" = some (some (.ref fI)))
    (kkb : PySem.W.keepIn K (.ref Cb) = true)
    (veb : PySem.W.subIn K (.ref Cb) (.type "ValueError") = some true)
    (sub : PySem.W.ks_superIn K Cb D "__init__" = some (some (.builtin "ValueError.__init__")))
    (mrb : PySem.W.mroIn K Cb (.ref D) = some true)
    (as : PySem.W.nsIn K mainGlobals "BadShape" = some (some (.ref Cs)))
    (xs : K.lookup Cs = some (excClassObj nms qs Cs Ns bss [.ref D, .type "ValueError", .type "Exception", .type "BaseException", .type "object"] true sns subs abs_ cols dds m0s m1s m2s m3s m5s "ValueError.__new__"))
    (sas : PySem.W.findIn K (.ref Cs) "__setattr__" = some (some (.builtin "object.__setattr__")))
    (ins : PySem.W.findIn K (.ref Cs) "__init__" = some (some (.ref fI)))
    (kks : PySem.W.keepIn K (.ref Cs) = true)
    (ves : PySem.W.subIn K (.ref Cs) (.type "ValueError") = some true)
    (sus : PySem.W.ks_superIn K Cs D "__init__" = some (some (.builtin "ValueError.__init__")))
    (mrs : PySem.W.mroIn K Cs (.ref D) = some true)
    (gab : PySem.W.findIn K (.ref Cb) "__getattribute__" = some (some (.builtin "BaseException.__getattribute__")))
    (ggb : PySem.W.findIn K (.ref Cb) "__getattr__" = some none)
    (exb : PySem.W.subIn K (.ref Cb) (.type "BaseException") = some true)
    (hdb : PySem.W.hasDictIn K Cb = true)
    (nwb : PySem.W.findIn K (.ref Cb) "what" = some none)
    (tyb : PySem.W.typeIn K (.ref Cb) = some (.type "type"))
    (gas : PySem.W.findIn K (.ref Cs) "__getattribute__" = some (some (.builtin "BaseException.__getattribute__")))
    (ggs : PySem.W.findIn K (.ref Cs) "__getattr__" = some none)
    (exs : PySem.W.subIn K (.ref Cs) (.type "BaseException") = some true)
    (hds : PySem.W.hasDictIn K Cs = true)
    (nws : PySem.W.findIn K (.ref Cs) "what" = some none)
    (tys : PySem.W.typeIn K (.ref Cs) = some (.type "type"))
    (gar : PySem.W.findIn K (.ref D) "__getattribute__" = some (some (.builtin "BaseException.__getattribute__")))
    (ggr : PySem.W.findIn K (.ref D) "__getattr__" = some none)
    (exr : PySem.W.subIn K (.ref D) (.type "BaseException") = some true)
    (hdr : PySem.W.hasDictIn K D = true)
    (nwr : PySem.W.findIn K (.ref D) "what" = some none)
    (tyr : PySem.W.typeIn K (.ref D) = some (.type "type"))
    (sss : PySem.W.subIn K (.ref Cs) (.ref Cs) = some true)
    (sbs : PySem.W.subIn K (.ref Cb) (.ref Cs) = some false)
    (sbb : PySem.W.subIn K (.ref Cb) (.ref Cb) = some true)
    (z_len : PySem.W.nsIn K mainGlobals "len" = some none)
    (z_range : PySem.W.nsIn K mainGlobals "range" = some none)
    (z_sorted : PySem.W.nsIn K mainGlobals "sorted" = some none)
    (z_tuple : PySem.W.nsIn K mainGlobals "tuple" = some none)
    (z_min : PySem.W.nsIn K mainGlobals "min" = some none)
    (z_max : PySem.W.nsIn K mainGlobals "max" = some none)
    (z_sum : PySem.W.nsIn K mainGlobals "sum" = some none)
    (z_int : PySem.W.nsIn K mainGlobals "int" = some none)
    (z_list : PySem.W.nsIn K mainGlobals "list" = some none)
    (z_dict : PySem.W.nsIn K mainGlobals "dict" = some none)
    (z_isinstance : PySem.W.nsIn K mainGlobals "isinstance" = some none)
    (z_bool : PySem.W.nsIn K mainGlobals "bool" = some none)
    (z_all : PySem.W.nsIn K mainGlobals "all" = some none)
    (z_enumerate : PySem.W.nsIn K mainGlobals "enumerate" = some none)
    (z_super : PySem.W.nsIn K mainGlobals "super" = some none)
    (n_MOST_LEAVES_shapes : PySem.W.nsIn K mainGlobals "MOST_LEAVES_shapes" = some (some (.int 12 t_MOST_LEAVES_shapes)))
    (n_MOST_JOINTS : PySem.W.nsIn K mainGlobals "MOST_JOINTS" = some (some (.int 11 t_MOST_JOINTS)))
    (n_LEAST_GROUP : PySem.W.nsIn K mainGlobals "LEAST_GROUP" = some (some (.int 2 t_LEAST_GROUP)))
    (n_MOST_LEAVES_calendars : PySem.W.nsIn K mainGlobals "MOST_LEAVES_calendars" = some (some (.int 12 t_MOST_LEAVES_calendars)))
    (n_MOST_DAYS : PySem.W.nsIn K mainGlobals "MOST_DAYS" = some (some (.int 11 t_MOST_DAYS)))
    : ∃ fd : FuncData, (∀ (s : Shared) (v : Value), BindsTo s fd ⟨[v], []⟩ [("_law_script", v)]) ∧ ∀ base : Heap, K.In base → base.Ns mainGlobals mg → FnOk l.prog w K mg base CX0 20 fa fd ["_law_script"] (spLaw K) := by
  have e := hfa.symm.trans (PySem.W.mg_of X G a29)
  cases e
  have B : Bi mg := { len_ := PySem.W.mg_none_of X G z_len, range_ := PySem.W.mg_none_of X G z_range, sorted_ := PySem.W.mg_none_of X G z_sorted, tuple_ := PySem.W.mg_none_of X G z_tuple, min_ := PySem.W.mg_none_of X G z_min, max_ := PySem.W.mg_none_of X G z_max, sum_ := PySem.W.mg_none_of X G z_sum, int_ := PySem.W.mg_none_of X G z_int, list_ := PySem.W.mg_none_of X G z_list, dict_ := PySem.W.mg_none_of X G z_dict, isinstance_ := PySem.W.mg_none_of X G z_isinstance, bool_ := PySem.W.mg_none_of X G z_bool, all_ := PySem.W.mg_none_of X G z_all, enumerate_ := PySem.W.mg_none_of X G z_enumerate, c_MOST_LEAVES_shapes := tkOf_eq (PySem.W.mg_of X G n_MOST_LEAVES_shapes), c_MOST_JOINTS := tkOf_eq (PySem.W.mg_of X G n_MOST_JOINTS), c_LEAST_GROUP := tkOf_eq (PySem.W.mg_of X G n_LEAST_GROUP), c_MOST_LEAVES_calendars := tkOf_eq (PySem.W.mg_of X G n_MOST_LEAVES_calendars), c_MOST_DAYS := tkOf_eq (PySem.W.mg_of X G n_MOST_DAYS) }
  have F0 := fun_mk (st := s_is_number) l0 c0 k0
  have b0 := F0.binds (ps := ["thing"]) fun _ _ _ _ _ _ us hl => match us, hl with | [_], _ => rfl
  have F1 := fun_mk (st := s_with_newborn) l1 c1 k1
  have b1 := F1.binds (ps := ["calendar", "lines", "d"]) fun _ _ _ _ _ _ us hl => match us, hl with | [_, _, _], _ => rfl
  have F2 := fun_mk (st := s_behind_row) l2 c2 k2
  have b2 := F2.binds (ps := ["lines", "row"]) fun _ _ _ _ _ _ us hl => match us, hl with | [_, _], _ => rfl
  have F3 := fun_mk (st := s_is_group) l3 c3 k3
  have b3 := F3.binds (ps := ["names", "thing"]) fun _ _ _ _ _ _ us hl => match us, hl with | [_, _], _ => rfl
  have F4 := fun_mk (st := s_is_row) l4 c4 k4
  have b4 := F4.binds (ps := ["names", "pattern", "thing"]) fun _ _ _ _ _ _ us hl => match us, hl with | [_, _, _], _ => rfl
  have F5 := fun_mk (st := s_first_bad) l5 c5 k5
  have b5 := F5.binds (ps := ["calendar", "rows"]) fun _ _ _ _ _ _ us hl => match us, hl with | [_, _], _ => rfl
  have F6 := fun_mk (st := s_want_tree) l6 c6 k6
  have b6 := F6.binds (ps := ["calendar", "rows"]) fun _ _ _ _ _ _ us hl => match us, hl with | [_, _], _ => rfl
  have F7 := fun_mk (st := s_shape_of) l7 c7 k7
  have b7 := F7.binds (ps := ["calendar", "tree"]) fun _ _ _ _ _ _ us hl => match us, hl with | [_, _], _ => rfl
  have F8 := fun_mk (st := s_leaves_of) l8 c8 k8
  have b8 := F8.binds (ps := ["shape", "deep"]) fun _ _ _ _ _ _ us hl => match us, hl with | [_, _], _ => rfl
  have F9 := fun_mk (st := s_wood_size) l9 c9 k9
  have b9 := F9.binds (ps := ["thing"]) fun _ _ _ _ _ _ us hl => match us, hl with | [_], _ => rfl
  have F10 := fun_mk (st := s_made_wood) l10 c10 k10
  have b10 := F10.binds (ps := ["n", "thing"]) fun _ _ _ _ _ _ us hl => match us, hl with | [_, _], _ => rfl
  have F11 := fun_mk (st := s_is_pattern) l11 c11 k11
  have b11 := F11.binds (ps := ["thing"]) fun _ _ _ _ _ _ us hl => match us, hl with | [_], _ => rfl
  have F12 := fun_mk (st := s_counts_of) l12 c12 k12
  have b12 := F12.binds (ps := ["born", "days"]) fun _ _ _ _ _ _ us hl => match us, hl with | [_, _], _ => rfl
  have F13 := fun_mk (st := s_made_calendar) l13 c13 k13
  have b13 := F13.binds (ps := ["born", "days"]) fun _ _ _ _ _ _ us hl => match us, hl with | [_, _], _ => rfl
  have F14 := fun_mk (st := s_law_pool) l14 c14 k14
  have b14 := F14.binds (ps := ["_law_script", "_law_k"]) fun _ _ _ _ _ _ us hl => match us, hl with | [_, _], _ => rfl
  have F15 := fun_mk (st := s_law_take) l15 c15 k15
  have b15 := F15.binds (ps := ["_law_source", "_law_top"]) fun _ _ _ _ _ _ us hl => match us, hl with | [_, _], _ => rfl
  have F16 := fun_mk (st := s_law_one) l16 c16 k16
  have b16 := F16.binds (ps := ["_law_source", "_law_things"]) fun _ _ _ _ _ _ us hl => match us, hl with | [_, _], _ => rfl
  have F17 := fun_mk (st := s_law_after) l17 c17 k17
  have b17 := F17.binds (ps := ["_law_alive", "_law_row"]) fun _ _ _ _ _ _ us hl => match us, hl with | [_, _], _ => rfl
  have F18 := fun_mk (st := s_law_pattern) l18 c18 k18
  have b18 := F18.binds (ps := ["_law_source", "_law_alive"]) fun _ _ _ _ _ _ us hl => match us, hl with | [_, _], _ => rfl
  have F19 := fun_mk (st := s_law_drawn) l19 c19 k19
  have b19 := F19.binds (ps := ["_law_source", "_law_most"]) fun _ _ _ _ _ _ us hl => match us, hl with | [_, _], _ => rfl
  have F20 := fun_mk (st := s_law_made) l20 c20 k20
  have b20 := F20.binds (ps := ["_law_calendar"]) fun _ _ _ _ _ _ us hl => match us, hl with | [_], _ => rfl
  have F21 := fun_mk (st := s_law_shapes) l21 c21 k21
  have b21 := F21.binds (ps := ["_law_calendar", "_law_tree_here"]) fun _ _ _ _ _ _ us hl => match us, hl with | [_, _], _ => rfl
  have F22 := fun_mk (st := s_law_tree) l22 c22 k22
  have b22 := F22.binds (ps := ["_law_source", "_law_calendar"]) fun _ _ _ _ _ _ us hl => match us, hl with | [_, _], _ => rfl
  have F23 := fun_mk (st := s_law_wood) l23 c23 k23
  have b23 := F23.binds (ps := ["_law_source", "_law_n", "_law_most"]) fun _ _ _ _ _ _ us hl => match us, hl with | [_, _, _], _ => rfl
  have F24 := fun_mk (st := s_law_leaves) l24 c24 k24
  have b24 := F24.binds (ps := ["_law_thing", "_law_depth"]) fun _ _ _ _ _ _ us hl => match us, hl with | [_, _], _ => rfl
  have F25 := fun_mk (st := s_law_is_wood) l25 c25 k25
  have b25 := F25.binds (ps := ["_law_thing"]) fun _ _ _ _ _ _ us hl => match us, hl with | [_], _ => rfl
  have F26 := fun_mk (st := s_law_bent) l26 c26 k26
  have b26 := F26.binds (ps := ["_law_source", "_law_thing", "_law_n"]) fun _ _ _ _ _ _ us hl => match us, hl with | [_, _, _], _ => rfl
  have F27 := fun_mk (st := s_law_told) l27 c27 k27
  have b27 := F27.binds (ps := ["_law_n", "_law_thing"]) fun _ _ _ _ _ _ us hl => match us, hl with | [_, _], _ => rfl
  have F28 := fun_mk (st := s_law_twelve) l28 c28 k28
  have b28 := F28.binds (ps := ["_law_source"]) fun _ _ _ _ _ _ us hl => match us, hl with | [_], _ => rfl
  have F29 := fun_mk (st := s_law) l29 c29 k29
  have FC := fun_mk (st := s_init) lI cI kI
  have bC := FC.binds (ps := ["self", "born", "days"]) fun _ _ _ _ _ _ us hl => match us, hl with | [_, _, _], _ => rfl
  have T : CalT K mg C := ⟨⟨pgC, hdC, poC, saC⟩, nBo, nDa, PySem.W.mg_of X G aC⟩
  have MC : Mk K C fC := ⟨mkC, aI, iI, kcC⟩
  have Tb : ErrTxt l.prog K mg "BadSize" Cb D fI cc := { gC := PySem.W.mg_of X G ab, cls := ⟨_, _, _, _, _, _, _, _, _, _, _, _, _, _, _, xb, rfl⟩, sa := sab, noN := nwb, iC := inb, tC := fI_t, kC := kkb, exC := exb, veC := veb, tyC := tyb, suC := sub, any := fI_any, cl := ⟨_, _, _, fI_cell⟩, cD := ⟨_, fI_cD⟩, mC := mrb, noS := PySem.W.mg_none_of X G z_super, fn := ⟨_, _, _, _, _, _, _, _, fI_l, fI_c, _, _, _, _, _, _, fI_k, fI_v, fI_f⟩, top := fI_top }
  have Ts : ErrTxt l.prog K mg "BadShape" Cs D fI cc := { gC := PySem.W.mg_of X G as, cls := ⟨_, _, _, _, _, _, _, _, _, _, _, _, _, _, _, xs, rfl⟩, sa := sas, noN := nws, iC := ins, tC := fI_t, kC := kks, exC := exs, veC := ves, tyC := tys, suC := sus, any := fI_any, cl := ⟨_, _, _, fI_cell⟩, cD := ⟨_, fI_cD⟩, mC := mrs, noS := PySem.W.mg_none_of X G z_super, fn := ⟨_, _, _, _, _, _, _, _, fI_l, fI_c, _, _, _, _, _, _, fI_k, fI_v, fI_f⟩, top := fI_top }
  have TT : TolT K mg Cb Cs D := { gs := PySem.W.mg_of X G as, gb := PySem.W.mg_of X G ab, gr := PySem.W.mg_of X G aR, xs := ⟨gas, ggs, exs, hds⟩, xb := ⟨gab, ggb, exb, hdb⟩, xr := ⟨gar, ggr, exr, hdr⟩, ns := nws, nb := nwb, nr := nwr, ss := PySem.W.exm_ref exs hds tys sss, bs := PySem.W.exm_ref exs hds tys sbs, bb := PySem.W.exm_ref exb hdb tyb sbb }
  have kbS : KBinds K _ ["calendar", "tree"] ["tree", "calendar"] swapW swapV := kb_swap (fd := PySem.W.fnOf "shape_of" "shape_of" (defArgs s_shape_of) (defBody s_shape_of) (defScope s_shape_of) .none kV7 dc7 pm7 an7 cd7 ct7) fun a b => rfl
  have kbM : KBinds K _ ["n", "thing"] ["thing", "n"] swapW swapV := kb_swap (fd := PySem.W.fnOf "made_wood" "made_wood" (defArgs s_made_wood) (defBody s_made_wood) (defScope s_made_wood) .none kV10 dc10 pm10 an10 cd10 ct10) fun a b => rfl
  refine ⟨PySem.W.fnOf "law" "law" (defArgs s_law) (defBody s_law) (defScope s_law) .none kV29 dc29 pm29 an29 cd29 ct29, fun s v => .of_eq rfl, fun base _ _ => ?_⟩
  have Q_law_take : Cal l.prog w K mg base CX0 1 "_law_take" ["_law_source", "_law_top"] (spTake) := ⟨_, _, ok_take F15 B, b15, k15, PySem.W.mg_of X G a15⟩
  have Q_law_one : Cal l.prog w K mg base CX0 2 "_law_one" ["_law_source", "_law_things"] (spOne K) := ⟨_, _, ok_one F16 B Q_law_take, b16, k16, PySem.W.mg_of X G a16⟩
  have Q_law_pool : Cal l.prog w K mg base CX0 1 "_law_pool" ["_law_script", "_law_k"] (spPool K) := ⟨_, _, ok_pool F14 B, b14, k14, PySem.W.mg_of X G a14⟩
  have Q_is_number : Cal l.prog w K mg base CX0 1 "is_number" ["thing"] (spNum) := ⟨_, _, ok_num F0 B, b0, k0, PySem.W.mg_of X G a0⟩
  have Q_is_pattern : Cal l.prog w K mg base CX0 2 "is_pattern" ["thing"] (spPat) := ⟨_, _, ok_pat F11 B Q_is_number, b11, k11, PySem.W.mg_of X G a11⟩
  have Q_counts_of : Cal l.prog w K mg base CX0 1 "counts_of" ["born", "days"] (spCounts K) := ⟨_, _, ok_counts F12 B, b12, k12, PySem.W.mg_of X G a12⟩
  have Q_made_calendar : Cal l.prog w K mg base CX0 3 "made_calendar" ["born", "days"] (spMade C) := ⟨_, _, ok_made F13 B T MC (ok_init FC T) bC Q_is_number Q_is_pattern Q_counts_of, b13, k13, PySem.W.mg_of X G a13⟩
  have Q_with_newborn : Cal l.prog w K mg base CX0 1 "with_newborn" ["calendar", "lines", "d"] (spBorn C) := ⟨_, _, ok_born F1 B T, b1, k1, PySem.W.mg_of X G a1⟩
  have Q_behind_row : Cal l.prog w K mg base CX0 1 "behind_row" ["lines", "row"] (spBehind) := ⟨_, _, ok_behind F2 B, b2, k2, PySem.W.mg_of X G a2⟩
  have Q_is_group : Cal l.prog w K mg base CX0 2 "is_group" ["names", "thing"] (spGroup) := ⟨_, _, ok_group F3 B Q_is_number, b3, k3, PySem.W.mg_of X G a3⟩
  have Q_is_row : Cal l.prog w K mg base CX0 3 "is_row" ["names", "pattern", "thing"] (spRow) := ⟨_, _, ok_row F4 B Q_is_group, b4, k4, PySem.W.mg_of X G a4⟩
  have Q_first_bad : Cal l.prog w K mg base CX0 4 "first_bad" ["calendar", "rows"] (spTree C) := ⟨_, _, ok_first F5 B T Q_with_newborn Q_is_row Q_behind_row, b5, k5, PySem.W.mg_of X G a5⟩
  have Q_want_tree : Cal l.prog w K mg base CX0 5 "want_tree" ["calendar", "rows"] (spTree C) := ⟨_, _, ok_want F6 B T Q_first_bad, b6, k6, PySem.W.mg_of X G a6⟩
  have Q_shape_of : Cal l.prog w K mg base CX0 6 "shape_of" ["calendar", "tree"] (spShape C) := ⟨_, _, ok_shape F7 B T Q_want_tree, b7, k7, PySem.W.mg_of X G a7⟩
  have Q_shapek : CalK l.prog w K mg base CX0 6 "shape_of" ["calendar", "tree"] ["tree", "calendar"] swapV (spShape C) := ⟨_, _, _, ok_shape F7 B T Q_want_tree, kbS, k7, PySem.W.mg_of X G a7⟩
  have Q_law_shapes : Cal l.prog w K mg base CX0 1 "_law_shapes" ["_law_calendar", "_law_tree_here"] (spLShapes) := ⟨_, _, ok_lshapes F21 B, b21, k21, PySem.W.mg_of X G a21⟩
  have Q_lv : ∀ n : Nat, Cal l.prog w K mg base CX0 (n + 1) "leaves_of" ["shape", "deep"] (spLv n) := fun n => by
    induction n with
    | zero => exact ⟨_, _, none_ok fun vs H Q E z => (by obtain ⟨_, _, _, _, z, _⟩ := z; omega), b8, k8, PySem.W.mg_of X G a8⟩
    | succ n ih => exact ⟨_, _, ok_leaves (by omega) F8 B Q_is_number ih, b8, k8, PySem.W.mg_of X G a8⟩
  have Q_wood_size : Cal l.prog w K mg base CX0 14 "wood_size" ["thing"] (spSize) := ⟨_, _, ok_size F9 B (Q_lv 12), b9, k9, PySem.W.mg_of X G a9⟩
  have Q_mw : CalK l.prog w K mg base (L2.CX l.prog w) 15 "made_wood" ["n", "thing"] ["thing", "n"] swapV (spMW Cb Cs) := ⟨_, _, _, ok_mw F10 B Tb Ts Q_wood_size, kbM, k10, PySem.W.mg_of X G a10⟩
  have Q_law_told : Cal l.prog w K mg base CX0 16 "_law_told" ["_law_n", "_law_thing"] (spTold) := ⟨_, _, ok_told F27 B TT Q_mw, b27, k27, PySem.W.mg_of X G a27⟩
  have Q_llv : ∀ n : Nat, Cal l.prog w K mg base CX0 n "_law_leaves" ["_law_thing", "_law_depth"] (spLLv n) := fun n => by
    induction n with
    | zero => exact ⟨_, _, none_ok fun vs H Q E z => (by obtain ⟨_, _, _, _, z, _⟩ := z; omega), b24, k24, PySem.W.mg_of X G a24⟩
    | succ n ih => exact ⟨_, _, ok_lleaves F24 B ih, b24, k24, PySem.W.mg_of X G a24⟩
  have Q_law_is_wood : Cal l.prog w K mg base CX0 13 "_law_is_wood" ["_law_thing"] (spIsW) := ⟨_, _, ok_isw F25 B (Q_llv 12), b25, k25, PySem.W.mg_of X G a25⟩
  have Q_law_after : Cal l.prog w K mg base CX0 1 "_law_after" ["_law_alive", "_law_row"] (spAfter) := ⟨_, _, ok_after F17 B, b17, k17, PySem.W.mg_of X G a17⟩
  have Q_law_tree : Cal l.prog w K mg base CX0 2 "_law_tree" ["_law_source", "_law_calendar"] (spTreeD) := ⟨_, _, ok_ltree F22 B Q_law_take Q_law_after, b22, k22, PySem.W.mg_of X G a22⟩
  have Q_law_made : Cal l.prog w K mg base CX0 4 "_law_made" ["_law_calendar"] (spMadeL C) := ⟨_, _, ok_lmade F20 B Q_made_calendar, b20, k20, PySem.W.mg_of X G a20⟩
  have Q_law_pattern : Cal l.prog w K mg base CX0 3 "_law_pattern" ["_law_source", "_law_alive"] (spPatD) := ⟨_, _, ok_pattern F18 B Q_law_take Q_law_one, b18, k18, PySem.W.mg_of X G a18⟩
  have Q_law_twelve : Cal l.prog w K mg base CX0 2 "_law_twelve" ["_law_source"] (spTwelve) := ⟨_, _, ok_twelve F28 B Q_law_take, b28, k28, PySem.W.mg_of X G a28⟩
  have Q_law_drawn : Cal l.prog w K mg base CX0 4 "_law_drawn" ["_law_source", "_law_most"] (spDrawn) := ⟨_, _, ok_drawn F19 B Q_law_take Q_law_one Q_law_pattern, b19, k19, PySem.W.mg_of X G a19⟩
  have Q_law_wood : Cal l.prog w K mg base CX0 3 "_law_wood" ["_law_source", "_law_n", "_law_most"] (spWood) := ⟨_, _, ok_wood F23 B Q_law_take Q_law_one, b23, k23, PySem.W.mg_of X G a23⟩
  have Q_bt : ∀ n : Nat, Cal l.prog w K mg base CX0 (n + 2) "_law_bent" ["_law_source", "_law_thing", "_law_n"] (spBent n) := fun n => by
    induction n with
    | zero => exact ⟨_, _, none_ok fun vs H Q E z => (by obtain ⟨_, _, _, _, _, _, _, _, _, _, _, _, z, _⟩ := z; omega), b26, k26, PySem.W.mg_of X G a26⟩
    | succ n ih => exact ⟨_, _, ok_bent (by omega) (by omega) F26 B Q_law_take Q_law_one ih, b26, k26, PySem.W.mg_of X G a26⟩
  exact ok_law F29 B Q_law_pool Q_law_take Q_law_one Q_law_twelve Q_law_drawn Q_law_made Q_law_tree Q_law_shapes Q_shape_of Q_shapek Q_law_told Q_law_wood (Q_bt 13) Q_law_is_wood
theorem walk {l : PySem.W.OpenLaw} {q : Program} {loose : List Str} {XP : (Str → Option Value) → Heap → Prop} {YP : World → Heap → Prop} {d : DefRec} {K : Params → PySem.W.Frag} (hn : l.most = some 63) (hdf : d.params.defaults = [])
    (hY : ∀ (w : World) (h : Heap), YP w h → (K w.params).In h)
    (F : ∀ (w : World) (mg : Str → Option Value) (fa : Addr) (h : Heap), (K w.params).In h → h.Ns mainGlobals mg → mg d.name = some (.ref fa) →
      ∃ fd : FuncData, (∀ (s : Shared) (u : Value), BindsTo s fd ⟨[u], []⟩ [("_law_script", u)]) ∧ ∀ base : Heap, (K w.params).In base → base.Ns mainGlobals mg → FnOk l.prog w (K w.params) mg base CX0 20 fa fd ["_law_script"] (spLaw (K w.params))) :
    PySem.W.WalkO q loose XP YP l.row.toRowW d [] (fun f vs => PySem.call f vs) :=
  L2.walk_of (n := 63) (k := 20) (x := "_law_script") (CX := fun _ => CX0) (sp := fun w => spLaw (K w.params)) hn (by decide) hdf ⟨rfl, by decide, by decide⟩ hY F (fun _ _ a ns hl _ hS => ⟨a, ns, rfl, hS, hl, fun _ => rfl⟩) fun _ _ _ _ _ z => z
end G93

set_option Elab.async false
open PySem PySem.W PyProof.Rows
set_option maxRecDepth 100000 in
set_option maxHeartbeats 0 in
theorem PySem.Challenge.cw_datedlines_k33_woods_of_trees_holds : PySem.Challenge.rw_datedlines_k33_woods_of_trees.Holds := by
  w_on; o_law; k_head; (case hw => w_witness2)
  k_fill
  refine G93.walk (l := PySem.Challenge.rw_datedlines_k33_woods_of_trees) rfl rfl (fun w h Y => PySem.W.kIn_of Y) ?F
  case F =>
    intro w mg fa h KX G hmg
    refine' G93.all_mk KX G hmg ?a0 ?l0 ?c0 ?k0 ?a1 ?l1 ?c1 ?k1 ?a2 ?l2 ?c2 ?k2 ?a3 ?l3 ?c3 ?k3 ?a4 ?l4 ?c4 ?k4 ?a5 ?l5 ?c5 ?k5 ?a6 ?l6 ?c6 ?k6 ?a7 ?l7 ?c7 ?k7 ?a8 ?l8 ?c8 ?k8 ?a9 ?l9 ?c9 ?k9 ?a10 ?l10 ?c10 ?k10 ?a11 ?l11 ?c11 ?k11 ?a12 ?l12 ?c12 ?k12 ?a13 ?l13 ?c13 ?k13 ?a14 ?l14 ?c14 ?k14 ?a15 ?l15 ?c15 ?k15 ?a16 ?l16 ?c16 ?k16 ?a17 ?l17 ?c17 ?k17 ?a18 ?l18 ?c18 ?k18 ?a19 ?l19 ?c19 ?k19 ?a20 ?l20 ?c20 ?k20 ?a21 ?l21 ?c21 ?k21 ?a22 ?l22 ?c22 ?k22 ?a23 ?l23 ?c23 ?k23 ?a24 ?l24 ?c24 ?k24 ?a25 ?l25 ?c25 ?k25 ?a26 ?l26 ?c26 ?k26 ?a27 ?l27 ?c27 ?k27 ?a28 ?l28 ?c28 ?k28 ?a29 ?l29 ?c29 ?k29 ?aC ?aI ?iI ?lI ?cI ?kI ?pgC ?hdC ?poC ?saC ?mkC ?kcC ?nBo ?nDa ?aR ?iR ?fI_l ?fI_c ?fI_k ?fI_v ?fI_f ?fI_cell ?fI_cD ?fI_any ?fI_top ?fI_t ?ab ?xb ?sab ?inb ?kkb ?veb ?sub ?mrb ?as ?xs ?sas ?ins ?kks ?ves ?sus ?mrs ?gab ?ggb ?exb ?hdb ?nwb ?tyb ?gas ?ggs ?exs ?hds ?nws ?tys ?gar ?ggr ?exr ?hdr ?nwr ?tyr ?sss ?sbs ?sbb ?z_len ?z_range ?z_sorted ?z_tuple ?z_min ?z_max ?z_sum ?z_int ?z_list ?z_dict ?z_isinstance ?z_bool ?z_all ?z_enumerate ?z_super ?n_MOST_LEAVES_shapes ?n_MOST_JOINTS ?n_LEAST_GROUP ?n_MOST_LEAVES_calendars ?n_MOST_DAYS
    (case a0 => k_is)
    (case l0 => k_is)
    (case c0 => k_is)
    (case k0 => k_is)
    (case a1 => k_is)
    (case l1 => k_is)
    (case c1 => k_is)
    (case k1 => k_is)
    (case a2 => k_is)
    (case l2 => k_is)
    (case c2 => k_is)
    (case k2 => k_is)
    (case a3 => k_is)
    (case l3 => k_is)
    (case c3 => k_is)
    (case k3 => k_is)
    (case a4 => k_is)
    (case l4 => k_is)
    (case c4 => k_is)
    (case k4 => k_is)
    (case a5 => k_is)
    (case l5 => k_is)
    (case c5 => k_is)
    (case k5 => k_is)
    (case a6 => k_is)
    (case l6 => k_is)
    (case c6 => k_is)
    (case k6 => k_is)
    (case a7 => k_is)
    (case l7 => k_is)
    (case c7 => k_is)
    (case k7 => k_is)
    (case a8 => k_is)
    (case l8 => k_is)
    (case c8 => k_is)
    (case k8 => k_is)
    (case a9 => k_is)
    (case l9 => k_is)
    (case c9 => k_is)
    (case k9 => k_is)
    (case a10 => k_is)
    (case l10 => k_is)
    (case c10 => k_is)
    (case k10 => k_is)
    (case a11 => k_is)
    (case l11 => k_is)
    (case c11 => k_is)
    (case k11 => k_is)
    (case a12 => k_is)
    (case l12 => k_is)
    (case c12 => k_is)
    (case k12 => k_is)
    (case a13 => k_is)
    (case l13 => k_is)
    (case c13 => k_is)
    (case k13 => k_is)
    (case a14 => k_is)
    (case l14 => k_is)
    (case c14 => k_is)
    (case k14 => k_is)
    (case a15 => k_is)
    (case l15 => k_is)
    (case c15 => k_is)
    (case k15 => k_is)
    (case a16 => k_is)
    (case l16 => k_is)
    (case c16 => k_is)
    (case k16 => k_is)
    (case a17 => k_is)
    (case l17 => k_is)
    (case c17 => k_is)
    (case k17 => k_is)
    (case a18 => k_is)
    (case l18 => k_is)
    (case c18 => k_is)
    (case k18 => k_is)
    (case a19 => k_is)
    (case l19 => k_is)
    (case c19 => k_is)
    (case k19 => k_is)
    (case a20 => k_is)
    (case l20 => k_is)
    (case c20 => k_is)
    (case k20 => k_is)
    (case a21 => k_is)
    (case l21 => k_is)
    (case c21 => k_is)
    (case k21 => k_is)
    (case a22 => k_is)
    (case l22 => k_is)
    (case c22 => k_is)
    (case k22 => k_is)
    (case a23 => k_is)
    (case l23 => k_is)
    (case c23 => k_is)
    (case k23 => k_is)
    (case a24 => k_is)
    (case l24 => k_is)
    (case c24 => k_is)
    (case k24 => k_is)
    (case a25 => k_is)
    (case l25 => k_is)
    (case c25 => k_is)
    (case k25 => k_is)
    (case a26 => k_is)
    (case l26 => k_is)
    (case c26 => k_is)
    (case k26 => k_is)
    (case a27 => k_is)
    (case l27 => k_is)
    (case c27 => k_is)
    (case k27 => k_is)
    (case a28 => k_is)
    (case l28 => k_is)
    (case c28 => k_is)
    (case k28 => k_is)
    (case a29 => k_is)
    (case l29 => k_is)
    (case c29 => k_is)
    (case k29 => k_is)
    (case aC => k_is)
    (case aI => k_is)
    (case iI => k_is)
    (case lI => k_is)
    (case cI => k_is)
    (case kI => k_is)
    (case pgC => k_is)
    (case hdC => k_is)
    (case poC => k_is)
    (case saC => k_is)
    (case mkC => k_is)
    (case kcC => k_is)
    (case nBo => k_is)
    (case nDa => k_is)
    (case aR => k_is)
    (case iR => k_is)
    (case fI_l => k_is)
    (case fI_c => k_is)
    (case fI_k => k_is)
    (case fI_v => rfl)
    (case fI_f => first | rfl | decide +kernel | k_is)
    (case fI_cell => k_is)
    (case fI_cD => k_is)
    (case fI_any => k_is)
    (case fI_top => first | rfl | decide +kernel | k_is)
    (case fI_t => k_is)
    (case ab => k_is)
    (case xb => k_is)
    (case sab => k_is)
    (case inb => k_is)
    (case kkb => k_is)
    (case veb => k_is)
    (case sub => ks_is)
    (case mrb => k_is)
    (case as => k_is)
    (case xs => k_is)
    (case sas => k_is)
    (case ins => k_is)
    (case kks => k_is)
    (case ves => k_is)
    (case sus => ks_is)
    (case mrs => k_is)
    (case gab => k_is)
    (case ggb => k_is)
    (case exb => k_is)
    (case hdb => k_is)
    (case nwb => k_is)
    (case tyb => k_is)
    (case gas => k_is)
    (case ggs => k_is)
    (case exs => k_is)
    (case hds => k_is)
    (case nws => k_is)
    (case tys => k_is)
    (case gar => k_is)
    (case ggr => k_is)
    (case exr => k_is)
    (case hdr => k_is)
    (case nwr => k_is)
    (case tyr => k_is)
    (case sss => first | rfl | k_is)
    (case sbs => first | rfl | k_is)
    (case sbb => first | rfl | k_is)
    (case z_len => k_is)
    (case z_range => k_is)
    (case z_sorted => k_is)
    (case z_tuple => k_is)
    (case z_min => k_is)
    (case z_max => k_is)
    (case z_sum => k_is)
    (case z_int => k_is)
    (case z_list => k_is)
    (case z_dict => k_is)
    (case z_isinstance => k_is)
    (case z_bool => k_is)
    (case z_all => k_is)
    (case z_enumerate => k_is)
    (case z_super => k_is)
    (case n_MOST_LEAVES_shapes => k_is)
    (case n_MOST_JOINTS => k_is)
    (case n_LEAST_GROUP => k_is)
    (case n_MOST_LEAVES_calendars => k_is)
    (case n_MOST_DAYS => k_is)
