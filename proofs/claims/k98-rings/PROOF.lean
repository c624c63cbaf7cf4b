import PyProof.Rows.All
import Wide.All
import OpenK.AllK
import Wide.FinOn
import KE.KOpsOwn
import KE.DatumOrd
import KE.GoesEnum
import HandS.ForMost
import HandS.More
import HandS.Walk
import HandS.Wide
import HandS.WideBits
import HandS.IsInst
import HandS.SortKw
import HandS.Star
import HandS.Conv
import HandS.DictComp
import HandS.Property
import HandS.Defaults
import HandS.Lambda
import HandS.Nested
import HandS.EndTab
import HandS.HeadHook4
import PySem.Challenge.RW_paintposts_k98_whole_rings_that_nobody_r
import HandS.NestedK
import KE.KStateDown
import Lean
import HandS.Head0
import HandS.Head1
import HandS.Head2
import KE.KSuper
import HandS.HeadWalk
import PyProof.ReprRoads
import PyProof.ReprBulk
import HandS.Style
set_option Elab.async false
set_option linter.all false
set_option maxRecDepth 100000
section
set_option maxHeartbeats 4000000
/-! Rules of this proof's own, over the hand layer: operators and subscripts of own classes, enumerate of a tuple, min and max with a default, // by a negative number. -/
namespace PR
open PySem PySem.Spec PyProof.Rows L2

/-! ### len(o), v not in o, o[i], a + b where o's, a's class has the def -/
section
variable {X : Cx} {CX : CXT} {k : Nat} {C D g : Addr} {sp : Sp} {E : XK}
/-- the class's own special def -/
structure Own (K : PySem.W.Frag) (C : Addr) (name : Str) (g : Addr) : Prop where
  at_ : PySem.W.findIn K (.ref C) name = some (some (.ref g))
  fn : PySem.W.isFn K (.ref g) = true
theorem run_special {pins : List (Addr × Obj)} {σ : L2.St} {H : Hp} {s : Shared} {Q : VK} {us : List Value} {vs : List V} (F : FnR X.prog X.w X.K X.mg X.base CX k g sp) (hr : Room k X.A) (hx : Passes CX X E) (I : Inv X pins σ H s) (r : Vals vs us) (h : sp vs H Q E) :
    wpAny (model X.prog X.w) X.A (call (.ref g) us) (EP X pins σ Q) X.xe s := wpAny_call (run_fnR F hr hx I r h)
/-- .. one C unit deeper -/
theorem run_special1 {pins : List (Addr × Obj)} {σ : L2.St} {H : Hp} {s : Shared} {Q : VK} {us : List Value} {vs : List V} (F : FnR X.prog X.w X.K X.mg X.base CX k g sp) (hr : Room (k + 1) X.A) (hx : Passes CX X E) (I : Inv X pins σ H s) (r : Vals vs us) (h : sp vs H Q E) :
    wpAny (model X.prog X.w) X.A.in1 (call (.ref g) us) (EP X pins σ Q) X.xe s := by
  refine wpAny_call (codeAny_mono (F X.A.in1 X.stack s H us vs Q E hr.in1 I.env0.in1 r h) fun res s' hq => ?_)
  cases res with
  | error e => exact hx pins σ H s e s' I hq
  | ok fl =>
    cases fl with
    | ret u => exact I.after hq
    | next => exact False.elim hq
    | brk => exact False.elim hq
    | cont => exact False.elim hq
theorem inst_of {pins : List (Addr × Obj)} {σ : L2.St} {H : Hp} {s : Shared} {a dx : Addr} {fs : List (Str × V)} (I : Inv X pins σ H s) (e : H a = some (.ins C dx fs)) : ∃ od, PySem.W.InstAt s.heap a (PySem.W.instObj C dx) C (some od) := by
  obtain ⟨mA, O, _⟩ := ins_get I.hok e
  obtain ⟨od, J, _⟩ := O.look
  exact ⟨od, J⟩
theorem call_lenOwn (o : Own X.K C "__len__" g) (F : FnR X.prog X.w X.K X.mg X.base CX k g sp) (hr : Room (k + 1) X.A) (hx : Passes CX X E) :
    CallR X (.builtin "len") (fun xs H Q => ∃ a dx fs, xs = [.ref a] ∧ H a = some (.ins C dx fs) ∧ sp [.ref a] H (fun v H' => ∃ n : Int, v = .int n ∧ 0 ≤ n ∧ n < 2 ^ 63 ∧ Q (.int n) H') E) := by
  intro pins s σ H xs us Q I r h
  obtain ⟨a, dx, fs, rfl, ea, q⟩ := h
  obtain ⟨u, rfl, ru⟩ := vals1 r
  obtain rfl : u = Value.ref a := ru
  obtain ⟨od, J⟩ := inst_of I ea
  obtain ⟨m, F0⟩ := I.fr
  refine PySem.W.len_K F0 I.mod.kin J o.at_ o.fn (wpAny_mono (run_special1 (vs := [V.ref a]) F hr hx I (.cons rfl .nil) q) (fun v s1 ⟨y, H1, I1, ry, n, ey, n0, n1, qn⟩ => ?_) fun _ _ z => z)
  subst ey
  obtain ⟨t, rfl⟩ := ry
  exact ⟨⟨n0, n1⟩, .int n, H1, I1.tok _, ⟨_, rfl⟩, qn⟩
theorem op_notInOwn (o : Own X.K C "__contains__" g) (F : FnR X.prog X.w X.K X.mg X.base CX k g sp) (hr : Room k X.A) (hx : Passes CX X E) :
    OpR X (compareOp .NotIn) (fun x y H Q => ∃ a dx fs, y = .ref a ∧ H a = some (.ins C dx fs) ∧ sp [.ref a, x] H (fun v H' => ∃ b, v = .bl b ∧ Q (.bl (!b)) H') E) := by
  intro pins s σ H x y v u Q I rx ry h
  obtain ⟨a, dx, fs, rfl, ea, q⟩ := h
  obtain rfl : u = Value.ref a := ry
  obtain ⟨od, J⟩ := inst_of I ea
  obtain ⟨m, F0⟩ := I.fr
  refine PySem.W.notIn_K F0 I.mod.kin J o.at_ o.fn (wpAny_mono (run_special (vs := [V.ref a, x]) F hr hx I (.cons rfl (.cons rx .nil)) q) (fun z s1 ⟨y, H1, I1, rz, b, ey, qn⟩ => ?_) fun _ _ z => z)
  subst ey
  obtain rfl : z = Value.bool b := rz
  exact wpAny_truthy_bool ⟨.bl (!b), H1, I1, rfl, qn⟩
/-- o[i] -/
def tIxOwn (C : Addr) (sp : Sp) (E : XK) (ta ti : TE) : TE := fun σ H Q => ta σ H fun x H1 => ti σ H1 fun i H2 => ∃ a dx fs, x = .ref a ∧ H2 a = some (.ins C dx fs) ∧ sp [.ref a, i] H2 Q E
theorem pe_ixOwn {a b : Expr} {ta tb : TE} {pos : Pos} (ha : PE X a ta) (hb : PE X b tb) (o : Own X.K C "__getitem__" g) (hf : PySem.W.fnIn X.K g = true) (F : FnR X.prog X.w X.K X.mg X.base CX k g sp) (hr : Room (k + 1) X.A) (hx : Passes CX X E)
    (hsl : ∀ x i, subscripted b true (.ref x) i = runValue (.builtin "lifetime.subscript" ⟨[.ref x, i], []⟩) := by intros; with_unfolding_all rfl) : PE X (.Subscript a b pos) (tIxOwn C sp E ta tb) := by
  refine ⟨fun pins s σ H Q I h => ?_⟩
  refine Subscript_ (binT ha hb I h fun v u s2 x y H2 I2 rx ry ⟨p, dx, fs, ex, ep, q⟩ => ?_)
  subst ex
  obtain rfl : v = Value.ref p := rx
  obtain ⟨od, J⟩ := inst_of I2 ep
  obtain ⟨m, F0⟩ := I2.fr
  exact PySem.W.sub_K F0 I2.mod.kin J o.at_ hf o.fn (run_special1 (vs := [V.ref p, y]) F hr hx I2 (.cons rfl (.cons ry .nil)) q) (hsl _ _)
end

/-! ### a + b: both of own classes, two of them -/
section
variable {prog : Program} {w : World} {A : Around} {E : Value → Shared → Prop} {s : Shared} {K : PySem.W.Frag} {x y C D f g : Addr} {ox oy : Obj} {od oe : Option Obj}
open PySem.W in
theorem bin_two {op : Operator} {Q : Value → Shared → Prop} (X : K.In s.heap) (I : InstAt s.heap x ox C od) (J : InstAt s.heap y oy D oe) (ne : C ≠ D) (hc : selfFirst K C = true) (hd : selfFirst K D = true)
    (hs : findIn K (.ref C) (PySem.dunder op.info.2) = some (some (.ref f))) (hf : isFn K (.ref f) = true) (hr : findIn K (.ref C) (dunderR op.info.2) = some none)
    (hs2 : findIn K (.ref D) (PySem.dunder op.info.2) = some (some (.ref g))) (hr2 : findIn K (.ref D) (dunderR op.info.2) = some none) (hsub : subIn K (.ref D) (.ref C) = some false)
    (h : wpAny (model prog w) A (call (.ref f) [.ref x, .ref y]) (PySem.W.CmpBack Q) E s) : wpAny (model prog w) A (binaryOp op (.ref x) (.ref y)) Q E s := by
  obtain ⟨cd, rest, hcd, hm⟩ := ksp_first hc
  obtain ⟨ce, rest2, hce, hm2⟩ := ksp_first hd
  rcases hi : op.info with ⟨sym, nm'⟩
  rw [hi] at hs hr hs2 hr2
  dsimp only at hs hr hs2 hr2
  have one := ksp_try X I hs hf h
  obtain ⟨hh, gg, dd, tt, os⟩ := s
  have L1 : Looks (model prog w) hh (typeOf (.ref x)) (.ref C) := I.type
  have L2 : Looks (model prog w) hh (typeOf (.ref y)) (.ref D) := J.type
  have L3 : Looks (model prog w) hh (fillsNumberSlot (.ref C) nm') true := fills_K X hcd hm hs
  have L4 : Looks (model prog w) hh (fillsNumberSlot (.ref D) nm') true := fills_K X hce hm2 hs2
  have L5 : Looks (model prog w) hh (isSubtype (.ref D) (.ref C)) false := looks_subIn X hsub
  have L6 : Looks (model prog w) hh (numberSlotInPython (.ref C) nm') true := ksp_inPy X hs hr (.inl rfl)
  have L7 : Looks (model prog w) hh (numberSlotInPython (.ref D) nm') true := ksp_inPy X hs2 hr2 (.inl rfl)
  have hne : (Value.ref C == Value.ref D) = false := Bool.eq_false_iff.mpr fun q => ne (by cases beq_iff_eq.mp q; rfl)
  simp only [binaryOp, hi]
  refine wpAny_holding (wpAny_bind ?_)
  unfold binaryOp1
  refine wpAny_bind (L1.at (wpAny_bind (L2.at (wpAny_bind (L3.at ?_)))))
  simp only [hne, Bool.false_eq_true, if_false]
  ksp_lk
  refine wpAny_mono one (fun r s' hr' => ?_) fun _ _ e => e
  obtain ⟨v, rfl, hq⟩ := hr'
  ksp_lk
  exact hq
end
section
variable {X : Cx} {CX : CXT} {k : Nat} {C D f g : Addr} {sp : Sp} {E : XK}
theorem op_addOwn (ne : C ≠ D) (hc : PySem.W.selfFirst X.K C = true) (hd : PySem.W.selfFirst X.K D = true) (o : Own X.K C "__add__" f) (hr1 : PySem.W.findIn X.K (.ref C) "__radd__" = some none) (hs2 : PySem.W.findIn X.K (.ref D) "__add__" = some (some (.ref g)))
    (hr2 : PySem.W.findIn X.K (.ref D) "__radd__" = some none) (hsub : PySem.W.subIn X.K (.ref D) (.ref C) = some false) (F : FnR X.prog X.w X.K X.mg X.base CX k f sp) (hr : Room k X.A) (hx : Passes CX X E) :
    OpR X (binaryOp .Add) (fun x y H Q => ∃ a b dx dy fs gs, x = .ref a ∧ y = .ref b ∧ H a = some (.ins C dx fs) ∧ H b = some (.ins D dy gs) ∧ sp [.ref a, .ref b] H (fun v H' => (∃ p, v = .ref p) ∧ Q v H') E) := by
  intro pins s σ H x y v u Q I rx ry h
  obtain ⟨a, b, dx, dy, fs, gs, rfl, rfl, ea, eb, q⟩ := h
  obtain rfl : v = Value.ref a := rx
  obtain rfl : u = Value.ref b := ry
  obtain ⟨od, J⟩ := inst_of I ea
  obtain ⟨oe, J2⟩ := inst_of I eb
  refine bin_two I.kIn J J2 ne hc hd o.at_ o.fn hr1 hs2 hr2 hsub (wpAny_mono (run_special (vs := [V.ref a, V.ref b]) F hr hx I (.cons rfl (.cons rfl .nil)) q) (fun z s1 ⟨y, H1, I1, rz, ⟨p, ey⟩, qn⟩ => ?_) fun _ _ z => z)
  subst ey
  obtain rfl : z = Value.ref p := rz
  exact ⟨.ref p, H1, I1, rfl, qn⟩
end

/-! ### // by a number of any sign, below 2 ^ 9000 -/
section
variable {X : Cx}
def CDivS (_ j : Int) : Prop := j ≠ 0 ∧ j.natAbs.log2 < 9000
theorem op_fdivS : OpR X (binaryOp .FloorDiv) (rI CDivS fun i j => .int (i.fdiv j)) := opI fun i j _ _ _ _ _ hc q => floordiv_int hc.1 q (.inl (PyProof.noPylong_of_log2 hc.2))
end

/-! ### min(xs, default=None), max(xs, default=None): tuples of ints, ints -/
section
variable {X : Cx}
abbrev dfKey : List Str := [Str.ofString "default"]
theorem reads_one {h h' : Heap} (k : ∀ b o, h.get? b = some o → h'.get? b = some o) {v : Value} {d d' : PyData} {as as' : List Addr} (r : Reads h v d as) (r' : Reads h' v d' as') : d' = d := (reads_det (fun b o e _ => k b o e) r r').1
theorem dpAll_ints {K : PySem.W.Frag} {H : Hp} : ∀ ns : List Int, DpAll K H (ns.map V.int) (ns.map PyData.int)
  | [] => .nil
  | n :: r => .cons (.int n) (dpAll_ints r)
theorem toD_tup (ns : List Int) : PySem.W.Datum.toD (PySem.W.Tup.mk ns) = PyData.tuple (ns.map PyData.int) := rfl
theorem dpAll_tups {K : PySem.W.Frag} {H : Hp} : ∀ (as : List Addr) (ts : List (PySem.W.Tup Int)), Paired (fun a t => SqT K H a (t.items.map V.int)) as ts → DpAll K H (as.map V.ref) (ts.map PySem.W.Datum.toD)
  | _, _, .nil => .nil
  | _, _, .cons h r => .cons (.tup h (dpAll_ints _)) (dpAll_tups _ _ r)
def rMinT (K : PySem.W.Frag) : List V → List V → Hp → VK → Prop := fun vs zs H Q => ∃ (a : Addr) (as : List Addr) (ts : List (PySem.W.Tup Int)), vs = [.ref a] ∧ zs = [.non] ∧ SqL K H a (as.map V.ref) ∧ Paired (fun a t => SqT K H a (t.items.map V.int)) as ts ∧
  (ts = [] → Q .non H) ∧ ∀ t r (i : Nat) b, ts = t :: r → as[i]? = some b → ts[i]? = some (PySem.W.minOf t r) → Q (.ref b) H
theorem paired_get {α β : Type} {R : α → β → Prop} : ∀ {xs : List α} {ys : List β} {i : Nat} {x : α}, Paired R xs ys → xs[i]? = some x → ∃ y, ys[i]? = some y ∧ R x y
  | _, _, _, _, .nil, e => by simp at e
  | _, _, 0, _, .cons r _, e => by simp at e; subst e; exact ⟨_, rfl, r⟩
  | _, _, i + 1, x, .cons _ t, e => by
    obtain ⟨y, h1, h2⟩ := paired_get (i := i) (x := x) t (by simpa using e)
    exact ⟨y, by simpa using h1, h2⟩
theorem cr_minT (hc : X.calm = true) (hu : X.A.units + 64 < cLine) : CallRK X (.builtin "min") dfKey (rMinT X.K) := by
  intro pins s σ H vs zs us ws Q I r rz h
  obtain ⟨a, as, ts, rfl, rfl, hl, hp, q0, q1⟩ := h
  obtain ⟨u, rfl, ru⟩ := vals1 r
  obtain rfl : u = Value.ref a := ru
  obtain ⟨w1, rfl, e1⟩ := vals1 rz
  obtain rfl : w1 = Value.none := e1
  obtain ⟨its, rv, pl, hz⟩ := I.list hl
  obtain ⟨bs, hr⟩ := Dp.readsAll I _ _ _ (dpAll_tups as ts hp) rv
  have HA : PySem.W.HoldAll s.heap its.toArray.toList ts := ⟨bs, by simpa using hr⟩
  show wpAny (model X.prog X.w) X.A (call (.builtin "min") [.ref a] [(Str.ofString "default", Value.none)]) _ _ s
  refine PySem.W.min_list_datum_default (I.ok.hd hc) pl.isList HA (by have h3 : PySem.W.Datum.depth (PySem.W.Tup Int) ≤ 3 := (by decide); omega) (fun e h' tk k => ⟨.non, H, I.kept k, rfl, q0 e⟩) fun y ys i v h' tk e hi hv k => ?_
  have I' : Inv X pins σ H { s with heap := h', toks := tk } := I.kept k
  have hiv : its[i]? = some v := by simpa using hi
  obtain ⟨b, hb, rb⟩ : ∃ b, as[i]? = some b ∧ RelV (V.ref b) v := by
    have hlt : i < as.length := by
      have := (List.getElem?_eq_some_iff.mp hiv).1
      rw [← rv.length, List.length_map] at this
      exact this
    have e2 : (as.map V.ref)[i]? = some (V.ref as[i]) := by rw [List.getElem?_map, List.getElem?_eq_getElem hlt]; rfl
    obtain ⟨u2, hu2, ru2⟩ := rv.get e2
    rw [hiv] at hu2
    cases hu2
    exact ⟨as[i], List.getElem?_eq_getElem hlt, ru2⟩
  obtain rfl : v = Value.ref b := rb
  obtain ⟨t, ht, hsq⟩ := paired_get hp hb
  obtain ⟨cs, rc⟩ := Dp.reads I' _ _ _ (.tup (ds := t.items.map PyData.int) hsq (dpAll_ints _)) (show RelV (V.ref b) (Value.ref b) from rfl)
  obtain ⟨ds, rd⟩ := hv
  have e3 := reads_one (fun _ _ z => z) rc rd
  have e4 : PySem.W.minOf y ys = t := by
    have e5 : PySem.W.Datum.toD (PySem.W.minOf y ys) = PySem.W.Datum.toD t := e3
    have e6 := PySem.W.Datum.eqv (PySem.W.minOf y ys) t
    rw [e5] at e6
    have e7 := PySem.W.Datum.eqv t t
    rw [decide_eq_true rfl] at e7
    rw [e7] at e6
    exact of_decide_eq_true e6.symm
  exact ⟨.ref b, H, I', rfl, q1 y ys i b e hb (by rw [e4]; exact ht)⟩
def rMaxI (K : PySem.W.Frag) : List V → List V → Hp → VK → Prop := fun vs zs H Q => ∃ (a : Addr) (ns : List Int), vs = [.ref a] ∧ zs = [.non] ∧ SqL K H a (ns.map V.int) ∧ (ns = [] → Q .non H) ∧ ∀ n r, ns = n :: r → Q (.int (PySem.W.maxOf n r)) H
theorem cr_maxI (hc : X.calm = true) (hu : X.A.units + 64 < cLine) : CallRK X (.builtin "max") dfKey (rMaxI X.K) := by
  intro pins s σ H vs zs us ws Q I r rz h
  obtain ⟨a, ns, rfl, rfl, hl, q0, q1⟩ := h
  obtain ⟨u, rfl, ru⟩ := vals1 r
  obtain rfl : u = Value.ref a := ru
  obtain ⟨w1, rfl, e1⟩ := vals1 rz
  obtain rfl : w1 = Value.none := e1
  obtain ⟨its, rv, pl, hz⟩ := I.list hl
  have HA : PySem.W.HoldAll s.heap its.toArray.toList ns := by
    have := PySem.W.HoldAll.of_ints (h := s.heap) rv.ints
    simpa using this
  show wpAny (model X.prog X.w) X.A (call (.builtin "max") [.ref a] [(Str.ofString "default", Value.none)]) _ _ s
  refine PySem.W.max_list_datum_default (I.ok.hd hc) pl.isList HA (by show X.A.units + 1 + 0 < cLine; omega) (fun e h' tk k => ⟨.non, H, I.kept k, rfl, q0 e⟩) fun y ys i v h' tk e hi hv k => ?_
  obtain ⟨ds, rd⟩ := hv
  have rd : Reads h' v (PyData.int (PySem.W.maxOf y ys)) ds := rd
  cases rd with
  | int _ t => exact ⟨.int _, H, I.kept k, ⟨t, rfl⟩, q1 y ys e⟩
end

/-! ### enumerate of a tuple -/
theorem enum_new1 {v : Value} {o : Obj} {G : Heap → Prop} (B : Begins v o G) :
    Meets (Builtin.«enumerate.__new__» ⟨[.type "enumerate", v], []⟩) (fun _ R s => G s.heap ∧
      R (.ok (.ret (.ref (s.heap.push o).objs.size))) { s with heap := (s.heap.push o).push { cls := .type "enumerate", data := .fields #[.none, .bool false, .ref s.heap.objs.size, rawInt 0, .none, .none] } }) :=
  .of_wp fun prog w A R s h => by
    obtain ⟨hp, g, d, tk, os⟩ := s
    obtain ⟨h1, h⟩ := h
    have hsub := sub_enumerate
    have q1 : ∀ {A' : Around} {E Q : Value → Shared → Prop}, Q (.ref hp.objs.size) ⟨hp.push o, g, d, tk, os⟩ → wpAny (model prog w) A' (pyIter v) Q E ⟨hp, g, d, tk, os⟩ := fun q => B.iter prog w _ _ ⟨hp, g, d, tk, os⟩ _ h1 q
    wp_walk using q1
    refine wpAny_stack_any fun st => wpAny_pure ?_
    split
    · rename_i c _ _ _ _ _
      cases (c == Value.type "enumerate") <;> (wp_walk using q1; exact ⟨_, rfl, h⟩)
    · wp_walk using q1
      exact ⟨_, rfl, h⟩
theorem enum_begins1 {prog : Program} {w : World} {A : Around} {E : Value → Shared → Prop} {s : Shared} {v : Value} {o : Obj} {G : Heap → Prop} {Q : Value → Shared → Prop} (B : Begins v o G) (h1 : G s.heap)
    (h : ∀ h', IsEnum h' (s.heap.objs.size + 1) s.heap.objs.size 0 .none → h'.get? s.heap.objs.size = some o → (∀ b o, s.heap.get? b = some o → h'.get? b = some o) → Q (.ref (s.heap.objs.size + 1)) { s with heap := h' }) :
    wpAny (model prog w) A (call (.type "enumerate") [v]) Q E s := by
  refine callType_new F.called_enumerate (by decide) (F.typeCall_enumerate_1 _) (F.newCall_enumerate_1 _) (fun obj => F.args_object_init_2 obj _) F.entry_enumerate_new (enum_new1 B) ⟨h1, ?_⟩
  have hz : (s.heap.push o).objs.size = s.heap.objs.size + 1 := Heap.size_push ..
  show _ ∧ _
  rw [hz]
  have he := Heap.get?_push_size (s.heap.push o) (o := { cls := .type "enumerate", data := .fields #[.none, .bool false, .ref s.heap.objs.size, rawInt 0, .none, .none] }) rfl
  rw [hz] at he
  exact ⟨⟨_, he, rfl⟩, h _ he (Heap.get?_push_of_some _ (Heap.get?_push_size _ B.free)) fun b o x => Heap.get?_push_of_some _ (Heap.get?_push_of_some _ x)⟩
/-- the tuple at a, each item in a new pair -/
def IteT (K : PySem.W.Frag) (a : Addr) : It :=
  ⟨fun i H => ∃ (xs : List V) (x : V), SqT K H a xs ∧ xs[i]? = some x, fun i H v H' => ∃ T x, v = .ref T ∧ H T = none ∧ H' = upd H T (.tup [.int (i : Nat), x]) ∧ ∀ xs, SqT K H a xs → xs[i]? = some x, fun i H => ∃ xs : List V, SqT K H a xs ∧ xs.length ≤ i⟩
theorem turn_enumT {P : Program} {w : World} {K : PySem.W.Frag} {elts : List Expr} {kk : Nat} {tpos : Pos} (a e it : Addr) :
    Turn P w K (.Tuple elts kk tpos) (IteT K a) [e, it] e (fun i h => (∃ old, IsEnum h e it ((i : Nat) : Int) old) ∧ h.IsTupleIter it a i ∧ e ≠ it) where
  mem := by simp
  obj := by
    rintro i h ⟨⟨old, he⟩, ⟨o, ho, hc, hd⟩, _⟩ b hb
    rcases List.mem_cons.mp hb with rfl | hb
    · exact ⟨_, he, fun v q => nomatch q⟩
    · obtain rfl := List.mem_singleton.mp hb
      exact ⟨o, ho, fun v q => by rw [hd] at q; cases q⟩
  keep := fun i h h' st k => let ⟨⟨old, he⟩, hi, hne⟩ := st; ⟨⟨old, k e (by simp) _ he⟩, hi.at fun o q => k it (by simp) o q, hne⟩
  item := by
    intro X hP hw hK hc i pins s σ H E I hf ⟨⟨old, he⟩, hit, hne⟩ ⟨xs, x, hq, hx⟩
    subst hP hw hK
    obtain ⟨its, rv, p, hz⟩ := I.tuple hq
    obtain ⟨u, hu, ru⟩ := rv.get hx
    have hel : e < s.heap.objs.size := Heap.lt_size he
    have hil : it < s.heap.objs.size := let ⟨_, q, _⟩ := hit; Heap.lt_size q
    have hal : a < s.heap.objs.size := p.lt
    have nea : e ≠ a := fun z => by
      obtain ⟨o, ho, hcl, _⟩ := p
      rw [← z] at ho
      rw [show s.heap.get? e = _ from he] at ho
      cases ho
      exact absurd (show Value.type "enumerate" = Value.type "tuple" from hcl) (by decide +kernel)
    have nia : a ≠ it := fun z => by
      obtain ⟨o, ho, hcl, _⟩ := p
      obtain ⟨o2, ho2, hcl2, _⟩ := hit
      rw [z, ho2] at ho
      cases ho
      rw [hcl2] at hcl
      exact absurd hcl (by decide +kernel)
    have D := Draws.tuple (prog := X.prog) (w := X.w) (A := X.A.in1) (by exact I.ok.hd hc) it a nia its.toArray
    have hlt : i < its.toArray.size := by
      have := (List.getElem?_eq_some_iff.mp hu).1
      simpa using this
    refine wpAny_pyNext_enum_itemD D he ⟨hit, p⟩ hlt hne (by simp [hne, nea]) fun y h' tk hy ho hst' hT hsz hk => ?_
    have ey : y = u := by
      have : its[i]? = some y := by simpa using hy
      rw [hu] at this
      exact (Option.some.inj this).symm
    subst ey
    refine ⟨_, rfl, wpAny_letOwnedTupleGo_enum (s := { s with heap := h', toks := tk + 1 }) ho fun h'' he' sb => ?_⟩
    have hT2 : h''.get? s.heap.objs.size = some { cls := .type "tuple", data := .seq #[.int i tk, y] } := (sb.2 _ (Nat.ne_of_gt hel)).trans hT
    have new : ObjOk X.prog X.w (upd H s.heap.objs.size (.tup [.int (i : Nat), x])) h'' s.heap.objs.size (.tup [.int (i : Nat), x]) :=
      ⟨by show 2 ≤ sizeLine; decide, [.int i tk, y], .cons ⟨_, rfl⟩ (.cons ru .nil), ⟨_, hT2, rfl, _, rfl⟩⟩
    have I1 : Inv X pins σ (upd H s.heap.objs.size (.tup [.int (i : Nat), x])) { s with heap := h'', toks := tk + 1 } :=
      I.turnedNew (ch := [e, it]) (fun b ob hb q => (sb.2 b (fun z => hb (by simp [z]))).trans (hk b ob (fun z => hb (by simp [z])) (fun z => hb (by simp [z])) q)) hf (Nat.le_refl _) new
    refine ⟨.ref s.heap.objs.size, _, I1, rfl, ⟨_, x, rfl, I.hok.fresh (Nat.le_refl _), rfl, fun ys hy => by rw [I.tuple_inj hy hq]; exact hx⟩, ⟨⟨y, ?_⟩, hst'.1.at fun o q => (sb.2 it (Ne.symm hne)).trans q, hne⟩, fun b hb => ?_⟩
    · rw [show ((i + 1 : Nat) : Int) = (i : Int) + 1 by omega]
      exact he'
    · have hb' : b < s.heap.objs.size := by
        rcases List.mem_cons.mp hb with rfl | hb
        · exact hel
        · obtain rfl := List.mem_singleton.mp hb
          exact hil
      rw [upd_ne (Nat.ne_of_lt hb')]
      exact (hf b hb).1
  done := by
    intro X hP hw hK hc i pins s σ H E I hf ⟨⟨old, he⟩, hit, hne⟩ ⟨xs, hq, hx⟩
    subst hP hw hK
    obtain ⟨its, rv, p, hz⟩ := I.tuple hq
    obtain ⟨f0, f1, f2, f3, f4, f5⟩ := hf it (by simp)
    have hl := rv.length
    have T := hit
    have nia : a ≠ it := fun z => by
      obtain ⟨o, ho, hcl, _⟩ := p
      obtain ⟨o2, ho2, hcl2, _⟩ := hit
      rw [z, ho2] at ho
      cases ho
      rw [hcl2] at hcl
      exact absurd hcl (by decide +kernel)
    have hT : s.TypeIs (.ref e) "enumerate" := ⟨_, he, rfl⟩
    unfold pyNext
    refine wpAny_bind (wpAny_attempt (wpAny_callSpecial?_slot (name := Str.ofString "__next__") hT F.slot_enumerate_next (wpAny_call_entry F.slot_enumerate_next hT F.entry_enumerate_next ?_ (F.args_enumerate_next_1 _))))
    show wpAny _ _ (field (.ref e) 2 >>= _) _ _ _
    refine wpAny_bind (wpAny_field he rfl (x := .ref it) rfl ?_)
    refine wpAny_bind (wpAny_nextOf_tuple_end (by exact I.ok.hd hc) hit p (by simp; omega) fun h' x he' hx' => ?_)
    obtain ⟨o, ho, hcc⟩ := hx'
    refine wpAny_bind (wpAny_isInstance (T := "StopIteration") (b := true) ⟨o, ho, hcc⟩ isSubtype_stop ?_)
    exact wpAny_pure ⟨rfl, I.turned (t' := s.toks) (fun b o hb q => he' b o hb q) f0 f1 f3 f4 f5⟩
  self := fun A i s Q E st h => let ⟨⟨_, he⟩, _⟩ := st; wpAny_pyIter_enum he h
def iEnumT (K : PySem.W.Frag) (ta : TA) : TI := fun σ H R => ta σ H fun vs H1 => ∃ a xs, vs = [.ref a] ∧ SqT K H1 a xs ∧ R (IteT K a) H1
theorem pi_enumT {X : Cx} {e : Expr} {ta : TA} {p pos tpos : Pos} {elts : List Expr} {kk : Nat} (hg : Gl X "enumerate") (hm : X.mg "enumerate" = none) (ha : PA X [e] ta) (hs : starEach [e] X.env = [(false, eval e X.env)] := by rfl) :
    PI X (.Tuple elts kk tpos) (.Call (.Name "enumerate" p) [e] [] pos) (iEnumT X.K ta) := by
  refine ⟨fun pins s σ H R I h => ?_⟩
  refine Call_ (ld_blt I hg hm boot_enumerate (PyProof.Rows.callWith_type1 (thn (ha.run pos pins s σ H _ I h) fun us s1 ⟨vs, H1, I1, r1, a, xs, ex, hq, q⟩ => ?_) hs rfl))
  subst ex
  obtain ⟨u, rfl, ru⟩ := vals1 r1
  obtain rfl : u = Value.ref a := ru
  obtain ⟨its, rv, p', hz⟩ := I1.tuple hq
  refine enum_begins1 (begins_tuple a its.toArray) (show s1.heap.IsTuple a its.toArray from p') fun h' he hit hk => wpAny_pyIter_enum he ?_
  have I2 : Inv X pins σ H1 { s1 with heap := h' } := I1.kept (t' := s1.toks) hk
  refine ⟨s1.heap.objs.size + 1, [s1.heap.objs.size + 1, s1.heap.objs.size], _, _, H1, rfl, I2, turn_enumT a (s1.heap.objs.size + 1) s1.heap.objs.size, ⟨⟨.none, he⟩, ⟨_, hit, rfl, rfl⟩, Nat.succ_ne_self _⟩, fun b hb => ?_, q⟩
  have hle : s1.heap.objs.size ≤ b := by
    rcases List.mem_cons.mp hb with rfl | hb
    · exact Nat.le_add_right _ _
    · rw [List.mem_singleton.mp hb]
      exact Nat.le_refl _
  exact I1.fpOk hle (I1.hok.fresh hle)
theorem walk_enumT {K : PySem.W.Frag} {a : Addr} {xs : List V} : Walk (IteT K a) xs.length (fun H => SqT K H a xs) (YPair (fun i => some (.int (i : Nat))) (fun i => xs[i]?)) := by
  refine ⟨fun i _ hi q => ⟨xs, xs[i], q, by simp [hi]⟩, fun _ q => ⟨xs, q, Nat.le_refl _⟩, fun i H v H' _ q y => ?_⟩
  obtain ⟨T, x, h1, h2, h3, h4⟩ := y
  exact ⟨T, .int (i : Nat), x, h1, h2, h3, rfl, h4 xs q⟩
end PR
end
section
set_option maxHeartbeats 4000000
/-! Own rules, further: calls by positional promises where nothing is raised; tuple of a dict; a nested def handed on and called by whoever holds it. -/
namespace PR
open PySem PySem.Spec PyProof.Rows L2 StX
/-- a promise of a def that lets nothing out -/
abbrev Fn (P : Program) (w : World) (K : PySem.W.Frag) (mg : Str → Option Value) (base : Heap) (k : Nat) (f : Addr) (sp : Sp) : Prop := FnR P w K mg base CX0 k f sp
section
variable {P : Program} {w : World} {K : PySem.W.Frag} {mg : Str → Option Value} {base : Heap} {k : Nat} {f : Addr} {sp : Sp} {x qual : Str} {params : Arguments} {body : List Stmt} {scope : Scope} {N ps : List Str}
/-- a def's promise by its body -/
theorem okD {dvs : List V} {fd : FuncData} (F : FunD K x qual params body scope dvs [] f fd) (S : FnScope N ps scope) (hb : ∃ ds, Binds K fd ps ds ∧ ds = []) (len : ∀ vs H Q E, sp vs H Q E → vs.length = ps.length)
    (hbody : ∀ (cdv : Value) (A : Around) (outer : List Env) (s : Shared) (H : Hp) (vs : List V) (Q : VK) (E : XK), Room k (A.deeper (envOfC qual scope s.heap.objs.size f cdv)) → sp vs H Q E →
      ∃ t, PSs (cxOf CX0 P w K mg base N qual scope f cdv A outer s H E).nox body t ∧ t ⟨fun _ H' => Q .non H', Q, fun _ _ => False, fun _ _ => False⟩ (start N vs) H) : Fn P w K mg base (k + 1) f sp := by
  obtain ⟨ds, b, rfl⟩ := hb
  have O : FnOk P w K mg base CX0 (k + 1) f fd ps sp := F.ok S len fun cdv A outer s H vs Q E hr h => by
    obtain ⟨t, h1, h2⟩ := hbody cdv A outer s H vs Q E hr h
    exact ⟨t, h1.nox, h2⟩
  exact (O.raw b .nil).imp fun vs H Q E h => by rw [List.append_nil]; exact h
theorem okR {fd : FuncData} (F : FunD K x qual params body scope [] [] f fd) (S : FnScope N ps scope) (len : ∀ vs H Q E, sp vs H Q E → vs.length = ps.length)
    (hb : ∀ (kV doc pm : Value) (an : Option Addr) (cdv ct : Value) (us : List Value), us.length = ps.length → bindArgs (PySem.W.fnOf x qual params body scope .none kV doc pm an cdv ct) ⟨us, []⟩ = pure (ps.zip us))
    (hbody : ∀ (cdv : Value) (A : Around) (outer : List Env) (s : Shared) (H : Hp) (vs : List V) (Q : VK) (E : XK), Room k (A.deeper (envOfC qual scope s.heap.objs.size f cdv)) → sp vs H Q E →
      ∃ t, PSs (cxOf CX0 P w K mg base N qual scope f cdv A outer s H E).nox body t ∧ t ⟨fun _ H' => Q .non H', Q, fun _ _ => False, fun _ _ => False⟩ (start N vs) H) : Fn P w K mg base (k + 1) f sp :=
  okD F S ⟨[], F.bindsN hb, rfl⟩ len hbody
end
section
variable {X : Cx} {k : Nat} {f C p1 : Addr} {sp : Sp} {x m : Str} {e o : Expr} {es : List Expr} {te ta : TE} {t : TA} {p pos apos sq : Pos}
def tCallR (sp : Sp) (t : TA) : TE := fun σ H Q => t σ H fun vs H1 => sp vs H1 Q E0
theorem pe_callR (F : Fn X.prog X.w X.K X.mg X.base k f sp) (hr : Room k X.A) (hm : X.mg x = some (.ref f)) (hk : PySem.W.keepIn X.K (.ref f) = true) (ha : PA X (e :: es) t) (hg : Gl X x := by rfl) (hdb : (x == ("__debug__" : Str)) = false := by decide)
    (he : starEach (e :: es) X.env = (false, eval e X.env) :: starEach es X.env := by rfl) (hpl : (backTo pos (starEach es X.env)).any (·.1) = false := by rfl) : PE X (.Call (.Name x p) (e :: es) [] pos) (tCallR sp t) :=
  ⟨fun pins s σ H Q I h => wpAny_Call_Name_kw (ld_glob I hg hm
    (PySem.W.callWith_K (h₀ := X.base) I.ok.mod.kin hk (thn (ha.run pos pins s σ H _ I h) fun us s1 ⟨vs, H1, I1, r, q⟩ => ⟨I1.kIn, wpAny_call (run_fnR F hr pass0 I1 r q)⟩) he hpl) hdb)⟩
/-- o.m() -/
theorem pe_methR0 {pl : Sem Bool} (ho : PE X o ta) (c : Cls X.K C) (hm : Meth X.K C m f) (F : Fn X.prog X.w X.K X.mg X.base k f sp) (hr : Room k X.A)
    (ht : eval (.Call (.Attribute o m apos) [] [] pos) X.env = (do
      let ov ← eval o X.env
      standAt apos.atName
      let (g, first) ← holding [ov] (getMethod ov m pl)
      callWith pos g first (backTo pos (starEach [] X.env)) (backToKw pos (keywordEach [] X.env))) := by rfl) : PE X (.Call (.Attribute o m apos) [] [] pos) (tMethR C m sp E0 ta tNil) := by
  constructor
  intro pins s σ H Q I h
  refine PySem.W.methodCall_KW (pl := pl) (thn (ho.run pins s σ H _ I h) fun u s1 ⟨v, H1, I1, rv, a, dx, fs, ev, ea, l, q⟩ => ?_) ht
  subst ev
  cases (show u = Value.ref a from rv)
  exact getmeth_ok I1 ea c hm l (PySem.W.callWith_K0 (first := [.ref a]) I1.kIn hm.kp (wpAny_call (run_fnR (us := [.ref a]) (vs := [.ref a]) F hr pass0 I1 (.cons rfl .nil) q)))
/-- C() -/
theorem pe_makeR0 (M : Mk X.K C f) (F : Fn X.prog X.w X.K X.mg X.base k f sp) (hr : Room (k + 1) X.A) (hm : X.mg x = some (.ref C)) (hg : Gl X x := by rfl) (hdb : (x == ("__debug__" : Str)) = false := by decide) : PE X (.Call (.Name x p) [] [] pos) (tMakeR C sp E0 tNil) :=
  ⟨fun pins s σ H Q I h => wpAny_Call_Name_kw (ld_glob I hg hm (PySem.W.callWith_K0 I.kIn M.kp (run_makeR (us := []) M F hr pass0 I .nil h)) hdb)⟩
/-- C( *y, e, ..) -/
theorem evalArgs_two {M : Model} {A : Around} {E : Value → Shared → Prop} {s : Shared} {f : Value} {a b : Bool × Sem Value} {rest : List (Bool × Sem Value)} {Q : Args → Shared → Prop}
    (h : wpAny M A (spliced (a :: b :: rest)) (fun vs s' => Q ⟨vs, []⟩ s') E s) : wpAny M A (evalArgs f true (a :: b :: rest) []) Q E s := by
  unfold evalArgs
  obtain ⟨ba, xa⟩ := a
  cases ba
  all_goals
    show wpAny M A (spliced (_ :: b :: rest) >>= _) Q E s
    refine wpAny_bind (wpAny_mono h (fun vs s' h' => ?_) fun _ _ x => x)
    first
      | exact wpAny_holding (wpAny_bind (wpAny_pure (wpAny_bind (wpAny_pure (wpAny_pure h')))))
      | exact wpAny_bind (wpAny_pure (wpAny_holding (wpAny_bind (wpAny_pure (wpAny_bind (wpAny_pure (wpAny_pure h')))))))
theorem pe_makeS2 {e2 : Expr} (M : Mk X.K C f) (F : Fn X.prog X.w X.K X.mg X.base k f sp) (hr : Room (k + 1) X.A) (hm : X.mg x = some (.ref C)) (ha : PA X (.Starred e sq :: e2 :: es) t) (hg : Gl X x := by rfl) (hdb : (x == ("__debug__" : Str)) = false := by decide)
    (h2 : starEach (.Starred e sq :: e2 :: es) X.env = (true, eval e X.env) :: (false, eval e2 X.env) :: starEach es X.env := by rfl) : PE X (.Call (.Name x p) (.Starred e sq :: e2 :: es) [] pos) (tMakeR C sp E0 t) := by
  constructor
  intro pins s σ H Q I h
  refine wpAny_Call_Name_kw (ld_glob I hg hm ?_ hdb)
  have z := ha.run pos pins s σ H _ I h
  have z2 := thn z fun us s1 ⟨vs, H1, I1, r, q⟩ => (⟨I1.kIn, run_makeR M F hr pass0 I1 r q⟩ : X.K.In s1.heap ∧ wpAny (model X.prog X.w) X.A (call (.ref C) ([] ++ us)) (EP X pins σ Q) X.xe s1)
  rw [h2] at z2 ⊢
  exact PySem.W.ks_call rfl (PySem.W.keeps_K M.kp) (evalArgs_two z2)
/-- C(*y) -/
theorem pe_makeS1 (M : Mk X.K C f) (F : Fn X.prog X.w X.K X.mg X.base k f sp) (hr : Room (k + 1) X.A) (hm : X.mg x = some (.ref C)) (he : PE X e te) (hg : Gl X x := by rfl) (hdb : (x == ("__debug__" : Str)) = false := by decide)
    (hst : starEach [.Starred e sq] X.env = [(true, eval e X.env)] := by rfl) :
    PE X (.Call (.Name x p) [.Starred e sq] [] pos) (fun σ H Q => te σ H fun y H1 => ∃ a xs, y = V.ref a ∧ (SqT X.K H1 a xs ∨ SqL X.K H1 a xs) ∧ ∀ x dx, H1 x = Option.none → H1 dx = Option.none → dx ≠ x → sp (V.ref x :: xs) (upd (upd H1 dx (.own x)) x (.ins C dx [])) (fun v H2 => v = .non ∧ Q (.ref x) H2) E0) := by
  constructor
  intro pins s σ H Q I h
  refine wpAny_Call_Name_kw (ld_glob I hg hm (PySem.W.callWith_S (h₀ := X.base) I.ok.mod.kin M.kp (thn (he.run pins s σ H _ I h) fun v s1 ⟨y, H1, I1, ry, a, xs, ey, hxs, q⟩ => ?_) hst) hdb)
  subst ey
  cases (show v = Value.ref a from ry)
  exact star_any I1 hxs fun us s2 I2 rv => ⟨I2.kIn, run_makeR M F hr pass0 I2 rv q⟩
/-- e.f, a property, by the getter's promise -/
def tPropR (C : Addr) (sp : Sp) (ta : TE) : TE := fun σ H Q => ta σ H fun x H1 => ∃ a dx fs, x = .ref a ∧ H1 a = some (.ins C dx fs) ∧ sp [.ref a] H1 Q E0
theorem pe_propR {y : Str} (he : PE X e ta) (c : Cls X.K C) (hp : PropOf X.K C y p1 f) (F : Fn X.prog X.w X.K X.mg X.base k f sp) (hr : Room (k + 1) X.A) (hab : attributeBase e y X.env (eval e X.env) = eval e X.env := by rfl) : PE X (.Attribute e y pos) (tPropR C sp ta) := by
  constructor
  intro pins s σ H Q I h
  refine attr_of hab (thn (he.run pins s σ H _ I h) fun u s1 ⟨x, H1, I1, rx, a, dx, fs, ex, ea, q⟩ => ?_)
  subst ex
  cases (show u = Value.ref a from rx)
  obtain ⟨mA, O, _, _, _, _⟩ := ins_get I1.hok ea
  obtain ⟨od, J, _⟩ := O.look
  obtain ⟨rest, hrec⟩ := hp.rec_
  have I2 := I1.tok (s1.toks + 1)
  have hcl : (PySem.W.clsIn X.K C).isSome = true := by
    obtain ⟨cd, e1, _⟩ := PySem.W.any_some c.hd
    rw [e1]; rfl
  refine PySem.W.get_bind I1.kIn J (PySem.W.plainGet_of (c.get y)).1 (PySem.W.findObj_data hcl hp.at_ hp.get hp.tak) (PySem.W.plainGet_of (c.get y)).2 (wpAny_call (PySem.W.prop_get (s := { s1 with toks := s1.toks + 1 }) I1.kIn hrec ?_))
  refine codeAny_mono (F X.A.in1 X.stack { s1 with toks := s1.toks + 1 } H1 [.ref a] [.ref a] Q E0 hr.in1 I2.env0.in1 (.cons rfl .nil) q) fun r s' hq => ?_
  cases r with
  | error er => exact hq.elim
  | ok fl =>
    cases fl with
    | ret u =>
      obtain ⟨v, H', I3, rv, q3⟩ := I2.after hq
      show wpAny _ _ (handedOut u) _ _ _
      rw [PySem.W.handedOut_of (handed_of rv)]
      exact wpAny_pure ⟨v, H', I3, rv, q3⟩
    | next => exact hq.elim
    | brk => exact hq.elim
    | cont => exact hq.elim
end
/-! ### tuple(d), d a dict with int and text keys -/
section
variable {prog : Program} {w : World} {A : Around} {E : Value → Shared → Prop} {s : Shared}
theorem tupd_new {T : String} {r d : Addr} {n : Nat} {P : Nat → Value → Prop} {OK : Heap → Prop} {Q₁ : Value → Shared → Prop} (S : PySem.W.KdlSrc prog w T r d n P OK) (hh : A.handled = none) (hok : OK s.heap) (hn : n ≤ sizeLine) (hT : ∀ s : Shared, OK s.heap → s.TypeIs (.ref r) T)
    (hne : (Value.type T == Value.type "tuple") = false)
    (h : ∀ (h' : Heap) (tk : Nat) (acc : Array Value), (∀ b o, s.heap.get? b = some o → h'.get? b = some o) → ItemsOf P acc n →
      Q₁ (.ref h'.objs.size) { s with heap := h'.push { cls := .type "tuple", data := .seq acc }, toks := tk }) :
    codeAny (model prog w) A (.call (.builtin "tuple.__new__") ⟨[.type "tuple", .ref r], []⟩) (wants Q₁ E) s := by
  refine codeAny_of_tree ?_
  show wpAny _ A.in1 (checkBuiltinCall "tuple.__new__" ⟨[.type "tuple", .ref r], []⟩ >>= fun _ => again (.builtin "tuple.__new__" ⟨[.type "tuple", .ref r], []⟩)) _ _ s
  refine wpAny_bind (wpAny_of_eq (PySem.F.newCall_tuple_1 _) (wpAny_pure ⟨plainId_quiet PySem.F.plain_tuple_new _, codeAny_builtin PySem.F.entry_tuple_new ?_⟩))
  rw [Around.under_plainId PySem.F.plain_tuple_new _]
  have hsub := sub_tuple_self
  have hinit := init_tuple_lookup
  have hmh := madeHere_tuple
  have hTI : s.TypeIs (.ref r) T := hT s hok
  have hh1 : A.in1.handled = none := hh
  wp_walk using wpAny_typeOf hTI, PySem.W.kdu_collect (A := A.in1) S hh1 hok hn
  all_goals first | (rename_i z; simp [hne] at z; done) | skip
  intro h' tk acc hk hacc
  show wpAny _ _ (Builtin.Tuple.tupleExact acc.toList.toArray >>= fun v => ret v) _ _ _
  unfold Builtin.Tuple.tupleExact
  refine wpAny_bind (wpAny_newObj_type ?_ (by show acc.toList.toArray.size ≤ sizeLine; simp only [Array.toArray_toList]; rw [hacc.1]; exact hn))
  refine wpAny_pure ?_
  have e : acc.toList.toArray = acc := by simp
  rw [e]
  exact h h' tk acc hk hacc
end
def rTupD : List V → Hp → VK → Prop := fun xs H Q => ∃ p kvs, xs = [.ref p] ∧ H p = some (.dK kvs) ∧ ∀ q, H q = none → Q (.ref q) (upd H q (.tup (kvs.map fun kv => kV kv.1)))
theorem call_tuple_dK {X : Cx} (hc : X.calm = true) : CallR X (.type "tuple") rTupD := by
  intro pins s σ H xs us Q I r h
  obtain ⟨p, kvs, e, hk, q⟩ := h
  subst e
  obtain ⟨u, eu, rx⟩ := vals1 r
  subst eu
  cases (show u = Value.ref p from rx)
  obtain ⟨z, lo, vs, rk, hd⟩ := (show ObjOk X.prog X.w H s.heap p (.dK kvs) from I.hok p _ hk)
  obtain ⟨ep, hat⟩ := hd.dictAt
  have hl : kvs.length = vs.length := Paired.length rk
  refine callType_codes (Q₁ := fun obj s₁ => s₁.TypeIs obj "tuple" ∧ EP X pins σ Q obj s₁) PySem.F.called_tuple (PySem.F.typeCall_tuple_1 _) PySem.F.entry_object_init
    (tupd_new (A := X.A.in1) (PySem.W.kdl_dict (knd := mixKind X.prog X.w) (kvs := vs) (ep := ep) lo) (I.ok.hd hc) hat (by rw [← hl]; exact z) (fun _ hm => hm.dictOf.typeIs) (by decide) fun h' tk acc hkeep hacc => ⟨⟨_, Heap.get?_push_size _ rfl, rfl⟩, ?_⟩) fun obj s₁ h₁ =>
      ⟨h₁.1, PySem.F.args_object_init_2 obj _, object_init_meets PySem.F.called_tuple.init.lookup PySem.F.called_tuple.made (by decide) X.prog X.w X.A.in1 _ s₁ ⟨h₁.1, rfl, h₁.2⟩⟩
  have I1 : Inv X pins σ H { s with heap := h', toks := tk } := I.kept hkeep
  have rr : Vals (kvs.map fun kv => kV kv.1) acc.toList := by
    have el : acc.toList.length = acc.size := by simp
    refine vals_of_at (by rw [List.length_map, el, hacc.1, hl]) fun j x w h1 h2 => ?_
    obtain ⟨k, y, hky, hi⟩ := hacc.2 j w (by rw [← Array.getElem?_toList]; exact h2)
    have e1 : (kvs.map (·.1))[j]? = some k := by rw [KV.keys rk, List.getElem?_map, hky] <;> rfl
    rw [List.getElem?_map] at h1 e1
    cases ek : kvs[j]? with
    | none => rw [ek] at e1; cases e1
    | some kv =>
      rw [ek] at e1 h1
      cases e1
      cases h1
      exact keyIs_rel hi
  have I2 : Inv X pins σ (upd H h'.objs.size (.tup (kvs.map fun kv => kV kv.1))) { s with heap := h'.push { cls := .type "tuple", data := .seq acc }, toks := tk } :=
    I1.laid (t' := tk) (fun b o e => Heap.get?_push_of_some _ e) (Nat.le_refl _) (show ObjOk X.prog X.w _ _ _ (.tup _) from ⟨by rw [List.length_map]; exact z, acc.toList, rr, by
      have e : acc.toList.toArray = acc := by simp
      have q := IsTup.new h' acc.toList.toArray
      rw [e] at q ⊢
      exact q⟩)
  exact ⟨.ref h'.objs.size, _, I2, rfl, q _ (I1.hok.fresh (Nat.le_refl _))⟩
end PR
end
section
set_option maxHeartbeats 4000000
/-! A nested def handed to a def of the module, which calls it: the cells stand still meanwhile. -/
namespace PR
open PySem PySem.Spec PyProof.Rows L2 StX NdefX LamX
/-- the function F stands at f, its cells hold ws and are no frame's own dict -/
structure Hand (F : NF) (fr : List Str) (ws : List (Option V)) (outer : List Env) (s : Shared) (H : Hp) : Prop where
  cells : CellsAt F.cl fr ws s.heap H
  nf : ∀ y c, F.cl.lookup y = some c → c ∉ frs outer
/-- a promise that is kept while G stands at the call -/
def FnG (P : Program) (w : World) (K : PySem.W.Frag) (mg : Str → Option Value) (base : Heap) (k : Nat) (g : Addr) (G : List Env → Shared → Hp → Prop) (sp : Sp) : Prop :=
  ∀ (A : Around) (outer : List Env) (s : Shared) (H : Hp) (us : List Value) (vs : List V) (Q : VK), Room k A → Env0 P w K mg base A outer s H → G outer s H → Vals vs us → sp vs H Q E0 →
    codeAny (model P w) A (.call (.ref g) ⟨us, []⟩) (CR CX0 outer P w H s Q E0) s
section
variable {P : Program} {w : World} {K : PySem.W.Frag} {mg : Str → Option Value} {base : Heap} {k : Nat} {g : Addr} {sp : Sp} {x qual : Str} {params : Arguments} {body : List Stmt} {scope : Scope} {N ps : List Str} {G : List Env → Shared → Hp → Prop}
theorem okG {fd : FuncData} (F : FunD K x qual params body scope [] [] g fd) (S : FnScope N ps scope) (len : ∀ vs H Q, sp vs H Q E0 → vs.length = ps.length)
    (hb : ∀ (kV doc pm : Value) (an : Option Addr) (cdv ct : Value) (us : List Value), us.length = ps.length → bindArgs (PySem.W.fnOf x qual params body scope .none kV doc pm an cdv ct) ⟨us, []⟩ = pure (ps.zip us))
    (hbody : ∀ (cdv : Value) (A : Around) (outer : List Env) (s : Shared) (H : Hp) (vs : List V) (Q : VK), Room k (A.deeper (envOfC qual scope s.heap.objs.size g cdv)) → G outer s H → sp vs H Q E0 →
      ∃ t, PSs (cxOf CX0 P w K mg base N qual scope g cdv A outer s H E0).nox body t ∧ t ⟨fun _ H' => Q .non H', Q, fun _ _ => False, fun _ _ => False⟩ (start N vs) H) : FnG P w K mg base (k + 1) g G sp := by
  intro A outer s H us vs Q hr e0 hG r hsp
  have bb := F.bindsN hb
  obtain ⟨oc, od, dV, kV, doc, pm, an, cdv, ct, osl, rfl, lk, hcd, _, _⟩ := F.ex
  have hl := len _ _ _ hsp
  have KX : K.In s.heap := e0.mod.kin.keeps fun b o e => (e0.bs b o e).1
  have lim := e0.mod.nolimit.keeps (h' := s.heap) fun b o e => (e0.bs b o e).1
  have hul : us.length = ps.length := r.length.symm.trans hl
  have hb2 : BindsTo s (PySem.W.fnOf x qual params body scope dV kV doc pm an cdv ct) ⟨us, []⟩ (ps.zip us) := by
    have z := bb s us KX (by rw [List.append_nil]; exact hul)
    rw [List.append_nil] at z
    exact z
  refine codeAny_call_function hr.depth (KX _ _ lk) rfl S.co S.gen rfl (PySem.W.codeRec_of KX hcd) (hb2 _ _ _ _ ?_)
  refine wpAny_newFunctionEnv_cells S.kind (fun y hy => ?_) fun env he s1 z => ?_
  · rcases S.par y.1 (List.of_mem_zip hy).1 with q | q
    · exact .inl q
    · exact .inr ⟨q, PySem.W.cellsFrom_some _ _ _ (.inl q)⟩
  subst he
  refine ⟨lim.keeps z.toInCall.keep, codeAny_func ?_⟩
  obtain ⟨t, ht, hq⟩ := hbody cdv A outer s H vs Q (hr.deeper _) hG hsp
  have I : Inv (cxOf CX0 P w K mg base N qual scope g cdv A outer s H E0) [] (start N vs) H s1 := inv_start S hr.hd e0 hl r z
  refine wpAny_mono (ht.nox.run [] s1 (start N vs) H _ I hq) (fun fl s' hs => ?_) fun e s' hs => hs
  cases fl with
  | ret u =>
    obtain ⟨v, σ', H', J, rv, q⟩ := hs
    exact ⟨v, H', J.os, J.bare, J.base, J.hok, rv, q⟩
  | next =>
    obtain ⟨σ', H', J, q⟩ := hs
    exact ⟨V.non, H', J.os, J.bare, J.base, J.hok, rfl, q⟩
  | brk =>
    obtain ⟨_, _, _, q⟩ := hs
    exact q.elim
  | cont =>
    obtain ⟨_, _, _, q⟩ := hs
    exact q.elim
end
section
variable {X : Cx} {F : NF} {f : Addr} {ps fr : List Str} {i j k : Nat} {x : Str} {sp : List (Option V) → Sp} {ws : List (Option V)} {t : TA} {e : Expr} {es : List Expr} {p pos : Pos}
/-- x(e, ..), x a name that holds the function handed over -/
def tCallH (F : NF) (f : Addr) (i : Nat) (sp : Sp) (t : TA) : TE := fun σ H Q => σ[i]? = some (some (.ref f)) ∧ H f = some (FnO f F) ∧ t σ H fun vs H1 => H1 f = some (FnO f F) ∧ H1 F.c = some (CodeO F.c F.qual) ∧ sp vs H1 Q E0
theorem pe_callH (O : NOk X.prog X.w X.K X.mg X.base CX0 k f F ps fr sp) (hr : Room j X.A) (hk : k ≤ j) (G : Hand F fr ws X.outer X.s_0 X.H_0) (hex : X.ex = []) (ha : PA X (e :: es) t) (hN : X.N[i]? = some x := by rfl) (hv : Vis X.env.scope x := by exact Or.inl rfl)
    (hd : (x == ("__debug__" : Str)) = false := by decide) (hcd : (x == ("__classdict__" : Str)) = false := by decide)
    (he : starEach (e :: es) X.env = (false, eval e X.env) :: starEach es X.env := by rfl) (hpl : (backTo pos (starEach es X.env)).any (·.1) = false := by rfl) : PE X (.Call (.Name x p) (e :: es) [] pos) (tCallH F f i (sp ws) t) := by
  constructor
  intro pins s σ H Q I ⟨hs, hf, ht⟩
  refine wpAny_Call_Name_kw (thn ((pe_var (pos := p) hN hv hd hcd).run pins s σ H (fun v H1 => v = .ref f ∧ H1 = H) I ⟨.ref f, hs, rfl, rfl⟩) fun u s1 ⟨v, H1, I1, r1, ev, eH⟩ => ?_)
  subst ev eH
  cases (show u = Value.ref f from r1)
  refine PySem.W.callWith_F (first := []) (fnAt_of I1 hf) (thn (ha.run pos pins s1 σ H1 _ I1 ht) fun us s2 ⟨vs, H2, I2, r, h1, h2, q⟩ => ⟨fnAt_of I2 h1, ?_⟩) he hpl
  have C := CellsAt.later G.cells G.nf (fun y c _ z => by rw [hex] at z; cases z) I2
  refine wpAny_call (codeAny_mono (O.run X.A X.stack s2 H2 us vs ws Q E0 (hr.mono hk) I2.env0 h1 h2 C r q) fun r s' hq => ?_)
  cases r with
  | error er => exact hq.elim
  | ok fl =>
    cases fl with
    | ret u => exact I2.after hq
    | next => exact hq.elim
    | brk => exact hq.elim
    | cont => exact hq.elim
/-- the own cells of a def are none of the callers' frames -/
theorem hand_of {pins : List (Addr × Obj)} {σ : L2.St} {H : Hp} {s : Shared} {js : List Nat} (I : Inv X pins σ H s) (c : Caps X F.cl fr js) (hfn : ∀ y c, F.cl.lookup y = some c → X.fn y = true) : Hand F fr (js.map (slotAt σ)) X.stack s H := by
  refine ⟨cells_of I c, fun y a e hm => ?_⟩
  have e1 := c.sub y a e
  have h1 := I.ok.cab y a (hfn y a e) e1
  have fresh : ∀ b, b ∈ frs X.outer → b < X.s_0.heap.objs.size := fun b hb => by
    have key : ∀ (l : List Env), X.s_0.heap.FunFrames X.base l → b ∈ frs l → b < X.s_0.heap.objs.size := fun l => by
      induction l with
      | nil => intro _ z; simp [frs] at z
      | cons ev r ih =>
        rintro ⟨_, ⟨L, o, hL, _, ho, _⟩, hr⟩ z
        unfold frs at z
        rw [List.filterMap_cons, hL] at z
        rcases List.mem_cons.mp z with q | q
        · rw [q]; exact Heap.lt_size ho
        · exact ih hr q
    exact key _ I.ok.funs hb
  rcases I.ok.stk with q | ⟨q, q2⟩
  · rw [q] at hm
    exact absurd (fresh a hm) (Nat.not_lt.mpr h1)
  · rw [q] at hm
    unfold frs at hm
    rw [List.filterMap_cons, q2] at hm
    rcases List.mem_cons.mp hm with z | z
    · obtain ⟨m, hn, _⟩ := I.loc
      obtain ⟨v, o, ho, hd⟩ := I.cell y a e1
      obtain ⟨o2, es, ep, ho2, hd2, _⟩ := hn
      rw [z, ho2] at ho
      cases ho
      rw [hd2] at hd
      cases hd
    · exact absurd (fresh a z) (Nat.not_lt.mpr h1)
/-- g(e, ..), the function at f among what is handed on -/
def tCallG (F : Addr → NF) (js : List Nat) (i : Nat) (sp : Addr → Addr → List (Option V) → Sp) (t : TA) : TE := fun σ H Q => t σ H fun vs H1 => ∃ f c', sp f c' (js.map (slotAt σ)) vs H1 Q E0
theorem pe_callG {mk : Addr → NF} {cl : List (Str × Addr)} {g : Addr} {js : List Nat} {spg : Addr → Addr → List (Option V) → Sp} (O : ∀ f c' ws, FnG X.prog X.w X.K X.mg X.base k g (Hand (mk c') fr ws) (spg f c' ws)) (hr : Room k X.A) (hm : X.mg x = some (.ref g)) (hk : PySem.W.keepIn X.K (.ref g) = true)
    (hcl : ∀ c', (mk c').cl = cl) (cp : X.Ok → Caps X cl fr js) (hfn : ∀ y c, cl.lookup y = some c → X.fn y = true) (ha : PA X (e :: es) t) (hg : Gl X x := by rfl) (hdb : (x == ("__debug__" : Str)) = false := by decide)
    (he : starEach (e :: es) X.env = (false, eval e X.env) :: starEach es X.env := by rfl) (hpl : (backTo pos (starEach es X.env)).any (·.1) = false := by rfl) : PE X (.Call (.Name x p) (e :: es) [] pos) (tCallG mk js i spg t) := by
  constructor
  intro pins s σ H Q I h
  refine wpAny_Call_Name_kw (ld_glob I hg hm (PySem.W.callWith_K (h₀ := X.base) I.ok.mod.kin hk (thn (ha.run pos pins s σ H _ I h) fun us s1 ⟨vs, H1, I1, r, f, c', q⟩ => ⟨I1.kIn, ?_⟩) he hpl) hdb)
  have hd : Hand (mk c') fr (js.map (slotAt σ)) X.stack s1 H1 := hand_of I1 (by rw [hcl]; exact cp I1.ok) (by rw [hcl]; exact hfn)
  refine wpAny_call (codeAny_mono (O f c' _ X.A X.stack s1 H1 us vs Q hr I1.env0 hd r q) fun r s' hq => ?_)
  cases r with
  | error er => exact hq.elim
  | ok fl =>
    cases fl with
    | ret u => exact I1.after hq
    | next => exact hq.elim
    | brk => exact hq.elim
    | cont => exact hq.elim
end
end PR
end
section
set_option maxHeartbeats 4000000
/-! The text by places and what is known of the top behind its run (Txt). -/
namespace PP
open PySem PySem.Spec PyProof.Rows L2 PR
def top (i : Nat) : Stmt := PySem.Challenge.pw_paintposts_k98_whole_rings_that_nobody_r.main.body.getD i (.Pass ⟨0, 0, 0, 0⟩)
/-- a property's getter -/
def pg (K : PySem.W.Frag) (C f : Str) : Addr := match PySem.W.recIn K (He.ma K (He.ga K C) f) "property" with
  | some (.ref g :: _) => g
  | _ => 0
def bdfl (K : PySem.W.Frag) : Addr := He.dflAt ("Crossing", some "bounds") 0 K
abbrev FD (K : PySem.W.Frag) (x qual : Str) (st : Stmt) (dvs : List V) (f : Addr) : Prop := ∃ fd, FunD K x qual (defArgs st) (defBody st) (defScope st) dvs [] f fd
abbrev s_is_integer : Stmt := top 19
abbrev s_is_between : Stmt := top 20
abbrev s_need_count : Stmt := top 24
abbrev s_inverse : Stmt := top 26
abbrev s_greatest_divisor : Stmt := top 27
abbrev s_least_fit : Stmt := top 28
abbrev s_least_true : Stmt := top 33
abbrev s_floor_sum : Stmt := top 35
abbrev s_remainders_below : Stmt := top 36
abbrev s_ceiling : Stmt := top 38
abbrev s_is_name : Stmt := top 45
abbrev s_history : Stmt := top 58
abbrev s_law_pen : Stmt := top 60
abbrev s_law_draw : Stmt := top 61
abbrev s_law_pick : Stmt := top 62
abbrev s_law_around : Stmt := top 63
abbrev s_law_power : Stmt := top 64
abbrev s_law_great : Stmt := top 65
abbrev s_law_names : Stmt := top 66
abbrev s_law_small : Stmt := top 67
abbrev s_law_fence : Stmt := top 68
abbrev s_law : Stmt := top 69
abbrev s_Crossing_init : Stmt := inClass (top 29) 0
abbrev s_Crossing_number : Stmt := inClass (top 29) 1
abbrev s_Crossing_other_number : Stmt := inClass (top 29) 2
abbrev s_Crossing_bounds : Stmt := inClass (top 29) 4
abbrev s_Crossing_first_block : Stmt := inClass (top 29) 5
abbrev s_Blocks_init : Stmt := inClass (top 31) 0
abbrev s_Blocks_crossing : Stmt := inClass (top 31) 1
abbrev s_Blocks_look : Stmt := inClass (top 31) 2
abbrev s_Blocks_first_of : Stmt := inClass (top 31) 3
abbrev s_Blocks_next_stop : Stmt := inClass (top 31) 4
abbrev s_Blocks_settle : Stmt := inClass (top 31) 5
abbrev s_Blocks_all_stops : Stmt := inClass (top 31) 6
abbrev s_RingCrossing_init : Stmt := inClass (top 39) 0
abbrev s_RingCrossing_first_block : Stmt := inClass (top 39) 1
abbrev s_RingCrossing_first_rising : Stmt := inClass (top 39) 2
abbrev s_RingCrossing_first_steady : Stmt := inClass (top 39) 3
abbrev s_RingBlocks_init : Stmt := inClass (top 41) 0
abbrev s_RingBlocks_crossing : Stmt := inClass (top 41) 1
abbrev s_Ring_init : Stmt := inClass (top 42) 0
abbrev s_Ring_row : Stmt := inClass (top 42) 5
abbrev s_Ring_getitem : Stmt := inClass (top 42) 9
abbrev s_Painter_init : Stmt := inClass (top 53) 3
abbrev s_Painter_post_after : Stmt := inClass (top 53) 12
abbrev s_Fence_init : Stmt := inClass (top 55) 0
abbrev s_Fence_need_name : Stmt := inClass (top 55) 5
abbrev s_Fence_len : Stmt := inClass (top 55) 7
abbrev s_Fence_contains : Stmt := inClass (top 55) 8
abbrev s_Fence_add : Stmt := inClass (top 55) 12
abbrev s_Fence_moved : Stmt := inClass (top 55) 16
abbrev s_Fence_widened : Stmt := inClass (top 55) 18
abbrev s_History_init : Stmt := inClass (top 57) 0
abbrev s_History_row : Stmt := inClass (top 57) 5
abbrev s_RingBlocks_look : Stmt := inClass (top 31) 2
abbrev s_RingBlocks_first_of : Stmt := inClass (top 31) 3
abbrev s_RingBlocks_next_stop : Stmt := inClass (top 31) 4
abbrev s_RingBlocks_settle : Stmt := inClass (top 31) 5
abbrev s_RingBlocks_all_stops : Stmt := inClass (top 31) 6
abbrev s_Ring_fence : Stmt := inClass (top 42) 2
abbrev s_Painter_name : Stmt := inClass (top 53) 6
abbrev s_Painter_day : Stmt := inClass (top 53) 7
abbrev s_Painter_post : Stmt := inClass (top 53) 8
abbrev s_Painter_stride : Stmt := inClass (top 53) 9
abbrev s_Painter_way : Stmt := inClass (top 53) 10
abbrev s_Fence_painters : Stmt := inClass (top 55) 2
abbrev s_Fence_names : Stmt := inClass (top 55) 3
abbrev s_History_rows : Stmt := inClass (top 57) 2
abbrev s_History_last_day : Stmt := inClass (top 57) 4
structure Txt (K : PySem.W.Frag) (mg : Str → Option Value) : Prop where
  g_is_integer : mg "is_integer" = some (.ref (He.ga K "is_integer"))
  g_is_between : mg "is_between" = some (.ref (He.ga K "is_between"))
  g_need_count : mg "need_count" = some (.ref (He.ga K "need_count"))
  g_inverse : mg "inverse" = some (.ref (He.ga K "inverse"))
  g_greatest_divisor : mg "greatest_divisor" = some (.ref (He.ga K "greatest_divisor"))
  g_least_fit : mg "least_fit" = some (.ref (He.ga K "least_fit"))
  g_least_true : mg "least_true" = some (.ref (He.ga K "least_true"))
  g_floor_sum : mg "floor_sum" = some (.ref (He.ga K "floor_sum"))
  g_remainders_below : mg "remainders_below" = some (.ref (He.ga K "remainders_below"))
  g_ceiling : mg "ceiling" = some (.ref (He.ga K "ceiling"))
  g_is_name : mg "is_name" = some (.ref (He.ga K "is_name"))
  g_history : mg "history" = some (.ref (He.ga K "history"))
  g_law_pen : mg "_law_pen" = some (.ref (He.ga K "_law_pen"))
  g_law_draw : mg "_law_draw" = some (.ref (He.ga K "_law_draw"))
  g_law_pick : mg "_law_pick" = some (.ref (He.ga K "_law_pick"))
  g_law_around : mg "_law_around" = some (.ref (He.ga K "_law_around"))
  g_law_power : mg "_law_power" = some (.ref (He.ga K "_law_power"))
  g_law_great : mg "_law_great" = some (.ref (He.ga K "_law_great"))
  g_law_names : mg "_law_names" = some (.ref (He.ga K "_law_names"))
  g_law_small : mg "_law_small" = some (.ref (He.ga K "_law_small"))
  g_law_fence : mg "_law_fence" = some (.ref (He.ga K "_law_fence"))
  g_law : mg "law" = some (.ref (He.ga K "law"))
  g_is_name_names : mg "is_name_names" = some (.ref (He.ga K "is_name"))
  g_Crossing : mg "Crossing" = some (.ref (He.ga K "Crossing"))
  c_Crossing : Cls K (He.ga K "Crossing")
  k_Crossing : Mk K (He.ga K "Crossing") (He.ma K (He.ga K "Crossing") "__init__")
  g_Blocks : mg "Blocks" = some (.ref (He.ga K "Blocks"))
  c_Blocks : Cls K (He.ga K "Blocks")
  k_Blocks : Mk K (He.ga K "Blocks") (He.ma K (He.ga K "Blocks") "__init__")
  g_RingCrossing : mg "RingCrossing" = some (.ref (He.ga K "RingCrossing"))
  c_RingCrossing : Cls K (He.ga K "RingCrossing")
  k_RingCrossing : Mk K (He.ga K "RingCrossing") (He.ma K (He.ga K "RingCrossing") "__init__")
  g_RingBlocks : mg "RingBlocks" = some (.ref (He.ga K "RingBlocks"))
  c_RingBlocks : Cls K (He.ga K "RingBlocks")
  k_RingBlocks : Mk K (He.ga K "RingBlocks") (He.ma K (He.ga K "RingBlocks") "__init__")
  g_Ring : mg "Ring" = some (.ref (He.ga K "Ring"))
  c_Ring : Cls K (He.ga K "Ring")
  k_Ring : Mk K (He.ga K "Ring") (He.ma K (He.ga K "Ring") "__init__")
  g_Painter : mg "Painter" = some (.ref (He.ga K "Painter"))
  c_Painter : Cls K (He.ga K "Painter")
  k_Painter : Mk K (He.ga K "Painter") (He.ma K (He.ga K "Painter") "__init__")
  g_Fence : mg "Fence" = some (.ref (He.ga K "Fence"))
  c_Fence : Cls K (He.ga K "Fence")
  k_Fence : Mk K (He.ga K "Fence") (He.ma K (He.ga K "Fence") "__init__")
  g_History : mg "History" = some (.ref (He.ga K "History"))
  c_History : Cls K (He.ga K "History")
  k_History : Mk K (He.ga K "History") (He.ma K (He.ga K "History") "__init__")
  f_len : mg "len" = none
  f_abs : mg "abs" = none
  f_min : mg "min" = none
  f_max : mg "max" = none
  f_int : mg "int" = none
  f_isinstance : mg "isinstance" = none
  f_enumerate : mg "enumerate" = none
  f_range : mg "range" = none
  f_tuple : mg "tuple" = none
  f_list : mg "list" = none
  f_repr : mg "repr" = none
  f_super : mg "super" = none
  f_divmod : mg "divmod" = none
  f_all : mg "all" = none
  f_bool : mg "bool" = none
  f_str : mg "str" = none
  i_MAX_ARGUMENT : ∃ t, mg "MAX_ARGUMENT" = some (.int 100000000000000000000000000000000000000000000000000000000000000000000000000000000 t)
  i_MAX_PAINTERS : ∃ t, mg "MAX_PAINTERS" = some (.int 40 t)
  i_MAX_STRIDE : ∃ t, mg "MAX_STRIDE" = some (.int 1000000000000000000 t)
  i_MAX_FEW : ∃ t, mg "MAX_FEW" = some (.int 8 t)
  i_MAX_SIZE : ∃ t, mg "MAX_SIZE" = some (.int 1000000000000000000000000000000 t)
  i_MAX_NAME : ∃ t, mg "MAX_NAME" = some (.int 8 t)
  t_LETTERS : ∃ t, mg "LETTERS" = some (.str "abcdefghijklmnopqrstuvwxyz" t)
  a_Crossing_one : NoAttr K (He.ga K "Crossing") "one"
  a_Crossing_other : NoAttr K (He.ga K "Crossing") "other"
  a_Crossing_is_empty : NoAttr K (He.ga K "Crossing") "is_empty"
  a_Crossing_step : NoAttr K (He.ga K "Crossing") "step"
  a_Crossing_other_step : NoAttr K (He.ga K "Crossing") "other_step"
  a_Crossing_start : NoAttr K (He.ga K "Crossing") "start"
  a_Crossing_other_start : NoAttr K (He.ga K "Crossing") "other_start"
  a_Blocks_walkers : NoAttr K (He.ga K "Blocks") "walkers"
  a_Blocks_limits : NoAttr K (He.ga K "Blocks") "limits"
  a_Blocks_firsts : NoAttr K (He.ga K "Blocks") "firsts"
  a_Blocks_crossings : NoAttr K (He.ga K "Blocks") "crossings"
  a_RingBlocks_around : NoAttr K (He.ga K "RingBlocks") "around"
  a_RingBlocks_walkers : NoAttr K (He.ga K "RingBlocks") "walkers"
  a_RingBlocks_limits : NoAttr K (He.ga K "RingBlocks") "limits"
  a_RingBlocks_firsts : NoAttr K (He.ga K "RingBlocks") "firsts"
  a_RingBlocks_crossings : NoAttr K (He.ga K "RingBlocks") "crossings"
  a_RingCrossing_wait : NoAttr K (He.ga K "RingCrossing") "wait"
  a_RingCrossing_length : NoAttr K (He.ga K "RingCrossing") "length"
  a_RingCrossing_cycle : NoAttr K (He.ga K "RingCrossing") "cycle"
  a_RingCrossing_is_empty : NoAttr K (He.ga K "RingCrossing") "is_empty"
  a_RingCrossing_step : NoAttr K (He.ga K "RingCrossing") "step"
  a_RingCrossing_start : NoAttr K (He.ga K "RingCrossing") "start"
  a_RingCrossing_slope : NoAttr K (He.ga K "RingCrossing") "slope"
  a_RingCrossing_offset : NoAttr K (He.ga K "RingCrossing") "offset"
  a_Ring_parts : NoAttr K (He.ga K "Ring") "parts"
  a_Ring_limits : NoAttr K (He.ga K "Ring") "limits"
  a_Ring_halts : NoAttr K (He.ga K "Ring") "halts"
  a_Painter_parts : NoAttr K (He.ga K "Painter") "parts"
  a_Fence_listed : NoAttr K (He.ga K "Fence") "listed"
  a_Fence_places : NoAttr K (He.ga K "Fence") "places"
  a_History_painted : NoAttr K (He.ga K "History") "painted"
  a_History_limits : NoAttr K (He.ga K "History") "limits"
  a_History_halts : NoAttr K (He.ga K "History") "halts"
  m_Crossing_number : Meth K (He.ga K "Crossing") "number" (He.ma K (He.ga K "Crossing") "number")
  m_Crossing_other_number : Meth K (He.ga K "Crossing") "other_number" (He.ma K (He.ga K "Crossing") "other_number")
  m_Crossing_bounds : Meth K (He.ga K "Crossing") "bounds" (He.ma K (He.ga K "Crossing") "bounds")
  m_Crossing_first_block : Meth K (He.ga K "Crossing") "first_block" (He.ma K (He.ga K "Crossing") "first_block")
  m_Blocks_crossing : Meth K (He.ga K "Blocks") "crossing" (He.ma K (He.ga K "Blocks") "crossing")
  m_Blocks_look : Meth K (He.ga K "Blocks") "look" (He.ma K (He.ga K "Blocks") "look")
  m_Blocks_first_of : Meth K (He.ga K "Blocks") "first_of" (He.ma K (He.ga K "Blocks") "first_of")
  m_Blocks_next_stop : Meth K (He.ga K "Blocks") "next_stop" (He.ma K (He.ga K "Blocks") "next_stop")
  m_Blocks_settle : Meth K (He.ga K "Blocks") "settle" (He.ma K (He.ga K "Blocks") "settle")
  m_Blocks_all_stops : Meth K (He.ga K "Blocks") "all_stops" (He.ma K (He.ga K "Blocks") "all_stops")
  m_RingCrossing_first_block : Meth K (He.ga K "RingCrossing") "first_block" (He.ma K (He.ga K "RingCrossing") "first_block")
  m_RingCrossing_first_rising : Meth K (He.ga K "RingCrossing") "first_rising" (He.ma K (He.ga K "RingCrossing") "first_rising")
  m_RingCrossing_first_steady : Meth K (He.ga K "RingCrossing") "first_steady" (He.ma K (He.ga K "RingCrossing") "first_steady")
  m_RingBlocks_crossing : Meth K (He.ga K "RingBlocks") "crossing" (He.ma K (He.ga K "RingBlocks") "crossing")
  m_Ring_row : Meth K (He.ga K "Ring") "row" (He.ma K (He.ga K "Ring") "row")
  m_Ring_getitem : Meth K (He.ga K "Ring") "__getitem__" (He.ma K (He.ga K "Ring") "__getitem__")
  m_Painter_post_after : Meth K (He.ga K "Painter") "post_after" (He.ma K (He.ga K "Painter") "post_after")
  m_Fence_need_name : Meth K (He.ga K "Fence") "need_name" (He.ma K (He.ga K "Fence") "need_name")
  m_Fence_len : Meth K (He.ga K "Fence") "__len__" (He.ma K (He.ga K "Fence") "__len__")
  m_Fence_contains : Meth K (He.ga K "Fence") "__contains__" (He.ma K (He.ga K "Fence") "__contains__")
  m_Fence_add : Meth K (He.ga K "Fence") "__add__" (He.ma K (He.ga K "Fence") "__add__")
  m_Fence_moved : Meth K (He.ga K "Fence") "moved" (He.ma K (He.ga K "Fence") "moved")
  m_Fence_widened : Meth K (He.ga K "Fence") "widened" (He.ma K (He.ga K "Fence") "widened")
  m_History_row : Meth K (He.ga K "History") "row" (He.ma K (He.ga K "History") "row")
  m_RingBlocks_look : Meth K (He.ga K "RingBlocks") "look" (He.ma K (He.ga K "RingBlocks") "look")
  m_RingBlocks_first_of : Meth K (He.ga K "RingBlocks") "first_of" (He.ma K (He.ga K "RingBlocks") "first_of")
  m_RingBlocks_next_stop : Meth K (He.ga K "RingBlocks") "next_stop" (He.ma K (He.ga K "RingBlocks") "next_stop")
  m_RingBlocks_settle : Meth K (He.ga K "RingBlocks") "settle" (He.ma K (He.ga K "RingBlocks") "settle")
  m_RingBlocks_all_stops : Meth K (He.ga K "RingBlocks") "all_stops" (He.ma K (He.ga K "RingBlocks") "all_stops")
  p_Ring_fence : PropOf K (He.ga K "Ring") "fence" (He.ma K (He.ga K "Ring") "fence") (pg K "Ring" "fence")
  p_Painter_name : PropOf K (He.ga K "Painter") "name" (He.ma K (He.ga K "Painter") "name") (pg K "Painter" "name")
  p_Painter_day : PropOf K (He.ga K "Painter") "day" (He.ma K (He.ga K "Painter") "day") (pg K "Painter" "day")
  p_Painter_post : PropOf K (He.ga K "Painter") "post" (He.ma K (He.ga K "Painter") "post") (pg K "Painter" "post")
  p_Painter_stride : PropOf K (He.ga K "Painter") "stride" (He.ma K (He.ga K "Painter") "stride") (pg K "Painter" "stride")
  p_Painter_way : PropOf K (He.ga K "Painter") "way" (He.ma K (He.ga K "Painter") "way") (pg K "Painter" "way")
  p_Fence_painters : PropOf K (He.ga K "Fence") "painters" (He.ma K (He.ga K "Fence") "painters") (pg K "Fence" "painters")
  p_Fence_names : PropOf K (He.ga K "Fence") "names" (He.ma K (He.ga K "Fence") "names") (pg K "Fence" "names")
  p_History_rows : PropOf K (He.ga K "History") "rows" (He.ma K (He.ga K "History") "rows") (pg K "History" "rows")
  p_History_last_day : PropOf K (He.ga K "History") "last_day" (He.ma K (He.ga K "History") "last_day") (pg K "History" "last_day")
  o_Fence_len : Own K (He.ga K "Fence") "__len__" (He.ma K (He.ga K "Fence") "__len__")
  o_Fence_contains : Own K (He.ga K "Fence") "__contains__" (He.ma K (He.ga K "Fence") "__contains__")
  o_Fence_add : Own K (He.ga K "Fence") "__add__" (He.ma K (He.ga K "Fence") "__add__")
  o_Ring_getitem : Own K (He.ga K "Ring") "__getitem__" (He.ma K (He.ga K "Ring") "__getitem__")
  n_Painter_MAX_DAY : ∃ u, Con K (He.ga K "Painter") "MAX_DAY" (.int 1000000000000000000000000000000) u
  n_Painter_MAX_POST : ∃ u, Con K (He.ga K "Painter") "MAX_POST" (.int 1000000000000000000000000000000) u
  n_Painter_MAX_STRIDE : ∃ u, Con K (He.ga K "Painter") "MAX_STRIDE" (.int 1000000000000000000) u
  ip1 : PySem.W.findIn K (.ref (He.ga K "Painter")) "__class__" = some (some (.builtin "object.__class__"))
  ip2 : PySem.W.specialIn K (.builtin "object.__class__") "__get__" = some (some (.builtin "getset_descriptor.__get__"))
  ip3 : PySem.W.takesIn K (.builtin "object.__class__") = some true
  ip4 : PySem.W.mroIn K (He.ga K "Painter") (.type "object") = some true
  ip5 : PySem.W.kitOne K (.ref (He.ga K "Painter")) (.ref (He.ga K "Painter")) = some true
  ad1 : He.ga K "Fence" ≠ He.ga K "Painter"
  ad2 : PySem.W.selfFirst K (He.ga K "Fence") = true
  ad3 : PySem.W.selfFirst K (He.ga K "Painter") = true
  ad4 : PySem.W.findIn K (.ref (He.ga K "Fence")) "__radd__" = some none
  ad5 : PySem.W.findIn K (.ref (He.ga K "Painter")) "__add__" = some (some (.ref (He.ma K (He.ga K "Painter") "__add__")))
  ad6 : PySem.W.findIn K (.ref (He.ga K "Painter")) "__radd__" = some none
  ad7 : PySem.W.subIn K (.ref (He.ga K "Painter")) (.ref (He.ga K "Fence")) = some false
  gi1 : PySem.W.fnIn K (He.ma K (He.ga K "Ring") "__getitem__") = true
  d_is_integer : FD K "is_integer" "is_integer" s_is_integer [] (He.ga K "is_integer")
  d_is_between : FD K "is_between" "is_between" s_is_between [] (He.ga K "is_between")
  d_need_count : FD K "need_count" "need_count" s_need_count [.int (10 ^ 80)] (He.ga K "need_count")
  d_inverse : FD K "inverse" "inverse" s_inverse [] (He.ga K "inverse")
  d_greatest_divisor : FD K "greatest_divisor" "greatest_divisor" s_greatest_divisor [] (He.ga K "greatest_divisor")
  d_least_fit : FD K "least_fit" "least_fit" s_least_fit [] (He.ga K "least_fit")
  d_least_true : FD K "least_true" "least_true" s_least_true [] (He.ga K "least_true")
  d_floor_sum : FD K "floor_sum" "floor_sum" s_floor_sum [] (He.ga K "floor_sum")
  d_remainders_below : FD K "remainders_below" "remainders_below" s_remainders_below [] (He.ga K "remainders_below")
  d_ceiling : FD K "ceiling" "ceiling" s_ceiling [] (He.ga K "ceiling")
  d_is_name : FD K "is_name" "is_name" s_is_name [] (He.ga K "is_name")
  d_history : FD K "history" "history" s_history [] (He.ga K "history")
  d_law_pen : FD K "_law_pen" "_law_pen" s_law_pen [] (He.ga K "_law_pen")
  d_law_draw : FD K "_law_draw" "_law_draw" s_law_draw [] (He.ga K "_law_draw")
  d_law_pick : FD K "_law_pick" "_law_pick" s_law_pick [] (He.ga K "_law_pick")
  d_law_around : FD K "_law_around" "_law_around" s_law_around [] (He.ga K "_law_around")
  d_law_power : FD K "_law_power" "_law_power" s_law_power [] (He.ga K "_law_power")
  d_law_great : FD K "_law_great" "_law_great" s_law_great [] (He.ga K "_law_great")
  d_law_names : FD K "_law_names" "_law_names" s_law_names [] (He.ga K "_law_names")
  d_law_small : FD K "_law_small" "_law_small" s_law_small [] (He.ga K "_law_small")
  d_law_fence : FD K "_law_fence" "_law_fence" s_law_fence [] (He.ga K "_law_fence")
  d_law : FD K "law" "law" s_law [] (He.ga K "law")
  d_Crossing_init : FD K "__init__" "Crossing.__init__" s_Crossing_init [] (He.ma K (He.ga K "Crossing") "__init__")
  d_Crossing_number : FD K "number" "Crossing.number" s_Crossing_number [] (He.ma K (He.ga K "Crossing") "number")
  d_Crossing_other_number : FD K "other_number" "Crossing.other_number" s_Crossing_other_number [] (He.ma K (He.ga K "Crossing") "other_number")
  d_Crossing_bounds : FD K "bounds" "Crossing.bounds" s_Crossing_bounds [.ref (bdfl K)] (He.ma K (He.ga K "Crossing") "bounds")
  d_Crossing_first_block : FD K "first_block" "Crossing.first_block" s_Crossing_first_block [] (He.ma K (He.ga K "Crossing") "first_block")
  d_Blocks_init : FD K "__init__" "Blocks.__init__" s_Blocks_init [] (He.ma K (He.ga K "Blocks") "__init__")
  d_Blocks_crossing : FD K "crossing" "Blocks.crossing" s_Blocks_crossing [] (He.ma K (He.ga K "Blocks") "crossing")
  d_Blocks_look : FD K "look" "Blocks.look" s_Blocks_look [] (He.ma K (He.ga K "Blocks") "look")
  d_Blocks_first_of : FD K "first_of" "Blocks.first_of" s_Blocks_first_of [] (He.ma K (He.ga K "Blocks") "first_of")
  d_Blocks_next_stop : FD K "next_stop" "Blocks.next_stop" s_Blocks_next_stop [] (He.ma K (He.ga K "Blocks") "next_stop")
  d_Blocks_settle : FD K "settle" "Blocks.settle" s_Blocks_settle [] (He.ma K (He.ga K "Blocks") "settle")
  d_Blocks_all_stops : FD K "all_stops" "Blocks.all_stops" s_Blocks_all_stops [] (He.ma K (He.ga K "Blocks") "all_stops")
  d_RingCrossing_init : FD K "__init__" "RingCrossing.__init__" s_RingCrossing_init [] (He.ma K (He.ga K "RingCrossing") "__init__")
  d_RingCrossing_first_block : FD K "first_block" "RingCrossing.first_block" s_RingCrossing_first_block [] (He.ma K (He.ga K "RingCrossing") "first_block")
  d_RingCrossing_first_rising : FD K "first_rising" "RingCrossing.first_rising" s_RingCrossing_first_rising [] (He.ma K (He.ga K "RingCrossing") "first_rising")
  d_RingCrossing_first_steady : FD K "first_steady" "RingCrossing.first_steady" s_RingCrossing_first_steady [] (He.ma K (He.ga K "RingCrossing") "first_steady")
  d_RingBlocks_crossing : FD K "crossing" "RingBlocks.crossing" s_RingBlocks_crossing [] (He.ma K (He.ga K "RingBlocks") "crossing")
  d_Ring_init : FD K "__init__" "Ring.__init__" s_Ring_init [] (He.ma K (He.ga K "Ring") "__init__")
  d_Ring_row : FD K "row" "Ring.row" s_Ring_row [] (He.ma K (He.ga K "Ring") "row")
  d_Ring_getitem : FD K "__getitem__" "Ring.__getitem__" s_Ring_getitem [] (He.ma K (He.ga K "Ring") "__getitem__")
  d_Painter_init : FD K "__init__" "Painter.__init__" s_Painter_init [] (He.ma K (He.ga K "Painter") "__init__")
  d_Painter_post_after : FD K "post_after" "Painter.post_after" s_Painter_post_after [] (He.ma K (He.ga K "Painter") "post_after")
  d_Fence_init : FD K "__init__" "Fence.__init__" s_Fence_init [] (He.ma K (He.ga K "Fence") "__init__")
  d_Fence_need_name : FD K "need_name" "Fence.need_name" s_Fence_need_name [] (He.ma K (He.ga K "Fence") "need_name")
  d_Fence_len : FD K "__len__" "Fence.__len__" s_Fence_len [] (He.ma K (He.ga K "Fence") "__len__")
  d_Fence_contains : FD K "__contains__" "Fence.__contains__" s_Fence_contains [] (He.ma K (He.ga K "Fence") "__contains__")
  d_Fence_add : FD K "__add__" "Fence.__add__" s_Fence_add [] (He.ma K (He.ga K "Fence") "__add__")
  d_Fence_moved : FD K "moved" "Fence.moved" s_Fence_moved [] (He.ma K (He.ga K "Fence") "moved")
  d_Fence_widened : FD K "widened" "Fence.widened" s_Fence_widened [] (He.ma K (He.ga K "Fence") "widened")
  d_History_init : FD K "__init__" "History.__init__" s_History_init [] (He.ma K (He.ga K "History") "__init__")
  d_History_row : FD K "row" "History.row" s_History_row [] (He.ma K (He.ga K "History") "row")
  d_RingBlocks_look : FD K "look" "Blocks.look" s_RingBlocks_look [] (He.ma K (He.ga K "RingBlocks") "look")
  d_RingBlocks_first_of : FD K "first_of" "Blocks.first_of" s_RingBlocks_first_of [] (He.ma K (He.ga K "RingBlocks") "first_of")
  d_RingBlocks_next_stop : FD K "next_stop" "Blocks.next_stop" s_RingBlocks_next_stop [] (He.ma K (He.ga K "RingBlocks") "next_stop")
  d_RingBlocks_settle : FD K "settle" "Blocks.settle" s_RingBlocks_settle [] (He.ma K (He.ga K "RingBlocks") "settle")
  d_RingBlocks_all_stops : FD K "all_stops" "Blocks.all_stops" s_RingBlocks_all_stops [] (He.ma K (He.ga K "RingBlocks") "all_stops")
  d_Ring_fence : FD K "fence" "Ring.fence" s_Ring_fence [] (pg K "Ring" "fence")
  d_Painter_name : FD K "name" "Painter.name" s_Painter_name [] (pg K "Painter" "name")
  d_Painter_day : FD K "day" "Painter.day" s_Painter_day [] (pg K "Painter" "day")
  d_Painter_post : FD K "post" "Painter.post" s_Painter_post [] (pg K "Painter" "post")
  d_Painter_stride : FD K "stride" "Painter.stride" s_Painter_stride [] (pg K "Painter" "stride")
  d_Painter_way : FD K "way" "Painter.way" s_Painter_way [] (pg K "Painter" "way")
  d_Fence_painters : FD K "painters" "Fence.painters" s_Fence_painters [] (pg K "Fence" "painters")
  d_Fence_names : FD K "names" "Fence.names" s_Fence_names [] (pg K "Fence" "names")
  d_History_rows : FD K "rows" "History.rows" s_History_rows [] (pg K "History" "rows")
  d_History_last_day : FD K "last_day" "History.last_day" s_History_last_day [] (pg K "History" "last_day")

end PP
end
section
set_option maxHeartbeats 0
/-! What the Hook of the head tells. -/
namespace PP
open PySem PySem.Spec PyProof.Rows L2 PR
def pR : He.Defn := ("RingCrossing", some "first_rising")
def pS : He.Defn := ("RingCrossing", some "first_steady")
abbrev FnX : Type := Option (Str × Str × Arguments × FuncBody × Scope × Addr × List Str × Addr)
def fnX (K : PySem.W.Frag) (a : Addr) : FnX := match K.lookup a with
  | some ⟨_, _, .func g, _⟩ => some (g.name, g.qualname, g.params, g.body, g.scope, g.globals, g.closure.map Prod.fst, g.builtins)
  | _ => none
structure DefX where
  ad : PySem.W.Frag → Addr
  name : Str
  qual : Str
  st : Stmt
  clo : List Str
  dfl : PySem.W.Frag → List V
def DefX.val (d : DefX) : FnX := some (d.name, d.qual, defArgs d.st, .stmts (defBody d.st), defScope d.st, mainGlobals, d.clo, builtinsNs)
def DefX.ok (K : PySem.W.Frag) (d : DefX) : Bool := PySem.W.keepIn K (.ref (d.ad K)) && (match K.lookup (d.ad K) with
  | some ⟨_, _, .func g, _⟩ => PySem.W.codeIn K g.code d.qual && He.dflB K g.defaults (d.dfl K)
  | _ => false)
theorem DefX.is {K : PySem.W.Frag} {d : DefX} (e : fnX K (d.ad K) = d.val) (c : d.ok K = true) : ∃ (oc : Value) (od : Option Addr) (cl : List (Str × Addr)) (dV kV doc pm : Value) (an : Option Addr) (cdv ct : Value) (osl : Array (Option Value)),
    K.lookup (d.ad K) = some ⟨oc, od, .func (PySem.W.fnX d.name d.qual (defArgs d.st) (defBody d.st) (defScope d.st) cl dV kV doc pm an cdv ct), osl⟩ ∧ cl.map Prod.fst = d.clo ∧ PySem.W.codeIn K cdv d.qual = true ∧ He.dflB K dV (d.dfl K) = true ∧ PySem.W.keepIn K (.ref (d.ad K)) = true := by
  obtain ⟨kp, c⟩ := He.ba c
  unfold fnX at e
  cases lk : K.lookup (d.ad K) with
  | none => rw [lk] at c; cases c
  | some ob =>
    obtain ⟨oc, od, dt, osl⟩ := ob
    rw [lk] at c e
    cases dt with
    | func g =>
      obtain ⟨m1, m2, m3, m4, m5, m6, m7, m8, m9, m10, m11, m12, m13, m14, m15⟩ := g
      have e : (some (m1, m2, m3, m4, m5, m6, m7.map Prod.fst, m15) : FnX) = some (d.name, d.qual, defArgs d.st, .stmts (defBody d.st), defScope d.st, mainGlobals, d.clo, builtinsNs) := e
      simp only [Option.some.injEq, Prod.mk.injEq] at e
      obtain ⟨e1, e2, e3, e4, e5, e6, e7, e8⟩ := e
      obtain ⟨c1, c2⟩ := He.ba (show (PySem.W.codeIn K m13 d.qual && He.dflB K m8 (d.dfl K)) = true from c)
      subst e1 e2 e3 e4 e5 e6 e8
      exact ⟨oc, od, m7, m8, m9, m10, m11, m12, m13, m14, osl, rfl, e7, c1, c2, kp⟩
    | _ => cases c
theorem DefX.fd {K : PySem.W.Frag} {d : DefX} (hc : d.clo = []) (e : fnX K (d.ad K) = d.val) (c : d.ok K = true) : FD K d.name d.qual d.st (d.dfl K) (d.ad K) := by
  obtain ⟨oc, od, cl, dV, kV, doc, pm, an, cdv, ct, osl, lk, hcl, h1, h2, kp⟩ := DefX.is e c
  rw [hc] at hcl
  have hcl : cl = [] := List.map_eq_nil_iff.mp hcl
  subst hcl
  exact ⟨_, ⟨⟨oc, od, dV, kV, doc, pm, an, cdv, ct, osl, rfl, lk, h1, He.dflB_ok h2, .inl rfl⟩, kp⟩⟩
def propB (K : PySem.W.Frag) (C f : Str) : Bool := He.eqO (PySem.W.findIn K (.ref (He.ga K C)) f) (some (some (.ref (He.ma K (He.ga K C) f)))) && (He.eqO (PySem.W.specialIn K (.ref (He.ma K (He.ga K C) f)) "__get__") (some (some (.builtin "property.__get__"))) && (decide (PySem.W.takesIn K (.ref (He.ma K (He.ga K C) f)) = some true) &&
  (match PySem.W.recIn K (He.ma K (He.ga K C) f) "property" with
  | some (.ref _ :: _) => true
  | _ => false)))
theorem propB_ok {K : PySem.W.Frag} {C f : Str} (h : propB K C f = true) : PropOf K (He.ga K C) f (He.ma K (He.ga K C) f) (pg K C f) := by
  obtain ⟨h1, h⟩ := He.ba h
  obtain ⟨h2, h⟩ := He.ba h
  obtain ⟨h3, h4⟩ := He.ba h
  refine ⟨He.eqO_ok h1, He.eqO_ok h2, of_decide_eq_true h3, ?_⟩
  unfold pg
  split at h4
  · rename_i g rest e
    rw [e]
    exact ⟨rest, rfl⟩
  · cases h4
def conB (K : PySem.W.Frag) (C f : Str) (v : Int) : Bool := match PySem.W.findIn K (.ref (He.ga K C)) f with
  | some (some (.int j t)) => decide (j = v) && (He.eqO (PySem.W.specialIn K (.int j t) "__get__") (some none) && !PySem.W.copiedNames.contains f)
  | _ => false
theorem conB_ok {K : PySem.W.Frag} {C f : Str} {v : Int} (h : conB K C f v = true) : ∃ u, Con K (He.ga K C) f (.int v) u := by
  unfold conB at h
  split at h
  · rename_i j t e
    obtain ⟨h1, h⟩ := He.ba h
    obtain ⟨h2, h3⟩ := He.ba h
    have h1 := of_decide_eq_true h1
    subst h1
    exact ⟨_, e, ⟨t, rfl⟩, He.eqO_ok h2, by simpa using h3⟩
  · cases h
abbrev rowP : Program := (PySem.Challenge.rw_paintposts_k98_whole_rings_that_nobody_r).prog
def cdaR (K : PySem.W.Frag) : Addr := match K.lookup (He.ma K (He.ga K "RingBlocks") "__init__") with
  | some ⟨_, _, .func g, _⟩ => (match g.code with
    | .ref c => c
    | _ => 0)
  | _ => 0
def ccR (K : PySem.W.Frag) : Addr := match K.lookup (He.ma K (He.ga K "RingBlocks") "__init__") with
  | some ⟨_, _, .func g, _⟩ => (match g.closure with
    | [(_, c)] => c
    | _ => 0)
  | _ => 0
def fileB (K : PySem.W.Frag) (c : Addr) : Bool := match K.lookup c with
  | some ⟨_, _, .fields vs, _⟩ => (match (vs[2]? : Option Value) with
    | some (.str file _) => (rowP.main.file : Str) == file
    | _ => false)
  | _ => false
def cellB (K : PySem.W.Frag) (c C : Addr) : Bool := match K.lookup c with
  | some ⟨_, _, .cell (some (.ref D)), _⟩ => decide (D = C)
  | _ => false
def faL : List He.Fa := [.glo "is_integer",
  .glo "is_between",
  .glo "need_count",
  .glo "inverse",
  .glo "greatest_divisor",
  .glo "least_fit",
  .glo "least_true",
  .glo "floor_sum",
  .glo "remainders_below",
  .glo "ceiling",
  .glo "is_name",
  .glo "history",
  .glo "_law_pen",
  .glo "_law_draw",
  .glo "_law_pick",
  .glo "_law_around",
  .glo "_law_power",
  .glo "_law_great",
  .glo "_law_names",
  .glo "_law_small",
  .glo "_law_fence",
  .glo "law",
  .glo "Crossing",
  .cls "Crossing",
  .mkr "Crossing",
  .glo "Blocks",
  .cls "Blocks",
  .mkr "Blocks",
  .glo "RingCrossing",
  .cls "RingCrossing",
  .mkr "RingCrossing",
  .glo "RingBlocks",
  .cls "RingBlocks",
  .mkr "RingBlocks",
  .glo "Ring",
  .cls "Ring",
  .mkr "Ring",
  .glo "Painter",
  .cls "Painter",
  .mkr "Painter",
  .glo "Fence",
  .cls "Fence",
  .mkr "Fence",
  .glo "History",
  .cls "History",
  .mkr "History",
  .free "len",
  .free "abs",
  .free "min",
  .free "max",
  .free "int",
  .free "isinstance",
  .free "enumerate",
  .free "range",
  .free "tuple",
  .free "list",
  .free "repr",
  .free "super",
  .free "divmod",
  .free "all",
  .free "bool",
  .free "str",
  .int "MAX_ARGUMENT" 100000000000000000000000000000000000000000000000000000000000000000000000000000000,
  .int "MAX_PAINTERS" 40,
  .int "MAX_STRIDE" 1000000000000000000,
  .int "MAX_FEW" 8,
  .int "MAX_SIZE" 1000000000000000000000000000000,
  .int "MAX_NAME" 8,
  .str "LETTERS" "abcdefghijklmnopqrstuvwxyz",
  .noat "Crossing" "one",
  .noat "Crossing" "other",
  .noat "Crossing" "is_empty",
  .noat "Crossing" "step",
  .noat "Crossing" "other_step",
  .noat "Crossing" "start",
  .noat "Crossing" "other_start",
  .noat "Blocks" "walkers",
  .noat "Blocks" "limits",
  .noat "Blocks" "firsts",
  .noat "Blocks" "crossings",
  .noat "RingBlocks" "around",
  .noat "RingBlocks" "walkers",
  .noat "RingBlocks" "limits",
  .noat "RingBlocks" "firsts",
  .noat "RingBlocks" "crossings",
  .noat "RingCrossing" "wait",
  .noat "RingCrossing" "length",
  .noat "RingCrossing" "cycle",
  .noat "RingCrossing" "is_empty",
  .noat "RingCrossing" "step",
  .noat "RingCrossing" "start",
  .noat "RingCrossing" "slope",
  .noat "RingCrossing" "offset",
  .noat "Ring" "parts",
  .noat "Ring" "limits",
  .noat "Ring" "halts",
  .noat "Painter" "parts",
  .noat "Fence" "listed",
  .noat "Fence" "places",
  .noat "History" "painted",
  .noat "History" "limits",
  .noat "History" "halts",
  .meth "Crossing" "number",
  .meth "Crossing" "other_number",
  .meth "Crossing" "bounds",
  .meth "Crossing" "first_block",
  .meth "Blocks" "crossing",
  .meth "Blocks" "look",
  .meth "Blocks" "first_of",
  .meth "Blocks" "next_stop",
  .meth "Blocks" "settle",
  .meth "Blocks" "all_stops",
  .meth "RingCrossing" "first_block",
  .meth "RingCrossing" "first_rising",
  .meth "RingCrossing" "first_steady",
  .meth "RingBlocks" "crossing",
  .meth "Ring" "row",
  .meth "Ring" "__getitem__",
  .meth "Painter" "post_after",
  .meth "Fence" "need_name",
  .meth "Fence" "__len__",
  .meth "Fence" "__contains__",
  .meth "Fence" "__add__",
  .meth "Fence" "moved",
  .meth "Fence" "widened",
  .meth "History" "row",
  .meth "RingBlocks" "look",
  .meth "RingBlocks" "first_of",
  .meth "RingBlocks" "next_stop",
  .meth "RingBlocks" "settle",
  .meth "RingBlocks" "all_stops"]
def exL : List (PySem.W.Frag → Bool) := [fun K => propB K "Ring" "fence",
  fun K => propB K "Painter" "name",
  fun K => propB K "Painter" "day",
  fun K => propB K "Painter" "post",
  fun K => propB K "Painter" "stride",
  fun K => propB K "Painter" "way",
  fun K => propB K "Fence" "painters",
  fun K => propB K "Fence" "names",
  fun K => propB K "History" "rows",
  fun K => propB K "History" "last_day",
  fun K => conB K "Painter" "MAX_DAY" 1000000000000000000000000000000,
  fun K => conB K "Painter" "MAX_POST" 1000000000000000000000000000000,
  fun K => conB K "Painter" "MAX_STRIDE" 1000000000000000000,
  fun K => He.eqO (PySem.W.nsIn K mainGlobals "is_name_names") (some (some (.ref (He.ga K "is_name")))),
  fun K => He.eqO (PySem.W.findIn K (.ref (He.ga K "Painter")) "__class__") (some (some (.builtin "object.__class__"))),
  fun K => He.eqO (PySem.W.specialIn K (.builtin "object.__class__") "__get__") (some (some (.builtin "getset_descriptor.__get__"))),
  fun K => decide (PySem.W.takesIn K (.builtin "object.__class__") = some true),
  fun K => decide (PySem.W.mroIn K (He.ga K "Painter") (.type "object") = some true),
  fun K => decide (PySem.W.kitOne K (.ref (He.ga K "Painter")) (.ref (He.ga K "Painter")) = some true),
  fun K => decide (He.ga K "Fence" ≠ He.ga K "Painter"),
  fun K => PySem.W.selfFirst K (He.ga K "Fence"),
  fun K => PySem.W.selfFirst K (He.ga K "Painter"),
  fun K => He.eqO (PySem.W.findIn K (.ref (He.ga K "Fence")) "__radd__") (some none),
  fun K => He.eqO (PySem.W.findIn K (.ref (He.ga K "Painter")) "__add__") (some (some (.ref (He.ma K (He.ga K "Painter") "__add__")))),
  fun K => He.eqO (PySem.W.findIn K (.ref (He.ga K "Painter")) "__radd__") (some none),
  fun K => decide (PySem.W.subIn K (.ref (He.ga K "Painter")) (.ref (He.ga K "Fence")) = some false),
  fun K => PySem.W.fnIn K (He.ma K (He.ga K "Ring") "__getitem__"),
  fun K => decide ((He.cT K pR).2 ≠ (He.cT K pS).2),
  fun K => decide (PySem.W.mroIn K (He.ga K "RingBlocks") (.ref (He.ga K "RingBlocks")) = some true),
  fun K => He.eqO (PySem.W.nsIn K cStatics "thirdparty.any") (some none),
  fun K => He.eqO (PySem.W.ks_superIn K (He.ga K "RingBlocks") (He.ga K "RingBlocks") "__init__") (some (some (.ref (He.ma K (He.ga K "Blocks") "__init__")))),
  fun K => decide (PySem.W.typeIn K (.ref (He.ma K (He.ga K "Blocks") "__init__")) = some (.type "function")),
  fun K => PySem.W.fnIn K (He.ma K (He.ga K "Blocks") "__init__"),
  fun K => fileB K (cdaR K),
  fun K => cellB K (ccR K) (He.ga K "RingBlocks")]
def dfL : List DefX := [⟨fun K => (He.ga K "is_integer"), "is_integer", "is_integer", s_is_integer, [], fun K => []⟩,
  ⟨fun K => (He.ga K "is_between"), "is_between", "is_between", s_is_between, [], fun K => []⟩,
  ⟨fun K => (He.ga K "need_count"), "need_count", "need_count", s_need_count, [], fun K => [.int (10 ^ 80)]⟩,
  ⟨fun K => (He.ga K "inverse"), "inverse", "inverse", s_inverse, [], fun K => []⟩,
  ⟨fun K => (He.ga K "greatest_divisor"), "greatest_divisor", "greatest_divisor", s_greatest_divisor, [], fun K => []⟩,
  ⟨fun K => (He.ga K "least_fit"), "least_fit", "least_fit", s_least_fit, [], fun K => []⟩,
  ⟨fun K => (He.ga K "least_true"), "least_true", "least_true", s_least_true, [], fun K => []⟩,
  ⟨fun K => (He.ga K "floor_sum"), "floor_sum", "floor_sum", s_floor_sum, [], fun K => []⟩,
  ⟨fun K => (He.ga K "remainders_below"), "remainders_below", "remainders_below", s_remainders_below, [], fun K => []⟩,
  ⟨fun K => (He.ga K "ceiling"), "ceiling", "ceiling", s_ceiling, [], fun K => []⟩,
  ⟨fun K => (He.ga K "is_name"), "is_name", "is_name", s_is_name, [], fun K => []⟩,
  ⟨fun K => (He.ga K "history"), "history", "history", s_history, [], fun K => []⟩,
  ⟨fun K => (He.ga K "_law_pen"), "_law_pen", "_law_pen", s_law_pen, [], fun K => []⟩,
  ⟨fun K => (He.ga K "_law_draw"), "_law_draw", "_law_draw", s_law_draw, [], fun K => []⟩,
  ⟨fun K => (He.ga K "_law_pick"), "_law_pick", "_law_pick", s_law_pick, [], fun K => []⟩,
  ⟨fun K => (He.ga K "_law_around"), "_law_around", "_law_around", s_law_around, [], fun K => []⟩,
  ⟨fun K => (He.ga K "_law_power"), "_law_power", "_law_power", s_law_power, [], fun K => []⟩,
  ⟨fun K => (He.ga K "_law_great"), "_law_great", "_law_great", s_law_great, [], fun K => []⟩,
  ⟨fun K => (He.ga K "_law_names"), "_law_names", "_law_names", s_law_names, [], fun K => []⟩,
  ⟨fun K => (He.ga K "_law_small"), "_law_small", "_law_small", s_law_small, [], fun K => []⟩,
  ⟨fun K => (He.ga K "_law_fence"), "_law_fence", "_law_fence", s_law_fence, [], fun K => []⟩,
  ⟨fun K => (He.ga K "law"), "law", "law", s_law, [], fun K => []⟩,
  ⟨fun K => (He.ma K (He.ga K "Crossing") "__init__"), "__init__", "Crossing.__init__", s_Crossing_init, [], fun K => []⟩,
  ⟨fun K => (He.ma K (He.ga K "Crossing") "number"), "number", "Crossing.number", s_Crossing_number, [], fun K => []⟩,
  ⟨fun K => (He.ma K (He.ga K "Crossing") "other_number"), "other_number", "Crossing.other_number", s_Crossing_other_number, [], fun K => []⟩,
  ⟨fun K => (He.ma K (He.ga K "Crossing") "bounds"), "bounds", "Crossing.bounds", s_Crossing_bounds, [], fun K => [.ref (bdfl K)]⟩,
  ⟨fun K => (He.ma K (He.ga K "Crossing") "first_block"), "first_block", "Crossing.first_block", s_Crossing_first_block, [], fun K => []⟩,
  ⟨fun K => (He.ma K (He.ga K "Blocks") "__init__"), "__init__", "Blocks.__init__", s_Blocks_init, [], fun K => []⟩,
  ⟨fun K => (He.ma K (He.ga K "Blocks") "crossing"), "crossing", "Blocks.crossing", s_Blocks_crossing, [], fun K => []⟩,
  ⟨fun K => (He.ma K (He.ga K "Blocks") "look"), "look", "Blocks.look", s_Blocks_look, [], fun K => []⟩,
  ⟨fun K => (He.ma K (He.ga K "Blocks") "first_of"), "first_of", "Blocks.first_of", s_Blocks_first_of, [], fun K => []⟩,
  ⟨fun K => (He.ma K (He.ga K "Blocks") "next_stop"), "next_stop", "Blocks.next_stop", s_Blocks_next_stop, [], fun K => []⟩,
  ⟨fun K => (He.ma K (He.ga K "Blocks") "settle"), "settle", "Blocks.settle", s_Blocks_settle, [], fun K => []⟩,
  ⟨fun K => (He.ma K (He.ga K "Blocks") "all_stops"), "all_stops", "Blocks.all_stops", s_Blocks_all_stops, [], fun K => []⟩,
  ⟨fun K => (He.ma K (He.ga K "RingCrossing") "__init__"), "__init__", "RingCrossing.__init__", s_RingCrossing_init, [], fun K => []⟩,
  ⟨fun K => (He.ma K (He.ga K "RingCrossing") "first_block"), "first_block", "RingCrossing.first_block", s_RingCrossing_first_block, [], fun K => []⟩,
  ⟨fun K => (He.ma K (He.ga K "RingCrossing") "first_rising"), "first_rising", "RingCrossing.first_rising", s_RingCrossing_first_rising, [], fun K => []⟩,
  ⟨fun K => (He.ma K (He.ga K "RingCrossing") "first_steady"), "first_steady", "RingCrossing.first_steady", s_RingCrossing_first_steady, [], fun K => []⟩,
  ⟨fun K => (He.ma K (He.ga K "RingBlocks") "__init__"), "__init__", "RingBlocks.__init__", s_RingBlocks_init, ["__class__"], fun K => []⟩,
  ⟨fun K => (He.ma K (He.ga K "RingBlocks") "crossing"), "crossing", "RingBlocks.crossing", s_RingBlocks_crossing, [], fun K => []⟩,
  ⟨fun K => (He.ma K (He.ga K "Ring") "__init__"), "__init__", "Ring.__init__", s_Ring_init, [], fun K => []⟩,
  ⟨fun K => (He.ma K (He.ga K "Ring") "row"), "row", "Ring.row", s_Ring_row, [], fun K => []⟩,
  ⟨fun K => (He.ma K (He.ga K "Ring") "__getitem__"), "__getitem__", "Ring.__getitem__", s_Ring_getitem, [], fun K => []⟩,
  ⟨fun K => (He.ma K (He.ga K "Painter") "__init__"), "__init__", "Painter.__init__", s_Painter_init, [], fun K => []⟩,
  ⟨fun K => (He.ma K (He.ga K "Painter") "post_after"), "post_after", "Painter.post_after", s_Painter_post_after, [], fun K => []⟩,
  ⟨fun K => (He.ma K (He.ga K "Fence") "__init__"), "__init__", "Fence.__init__", s_Fence_init, [], fun K => []⟩,
  ⟨fun K => (He.ma K (He.ga K "Fence") "need_name"), "need_name", "Fence.need_name", s_Fence_need_name, [], fun K => []⟩,
  ⟨fun K => (He.ma K (He.ga K "Fence") "__len__"), "__len__", "Fence.__len__", s_Fence_len, [], fun K => []⟩,
  ⟨fun K => (He.ma K (He.ga K "Fence") "__contains__"), "__contains__", "Fence.__contains__", s_Fence_contains, [], fun K => []⟩,
  ⟨fun K => (He.ma K (He.ga K "Fence") "__add__"), "__add__", "Fence.__add__", s_Fence_add, [], fun K => []⟩,
  ⟨fun K => (He.ma K (He.ga K "Fence") "moved"), "moved", "Fence.moved", s_Fence_moved, [], fun K => []⟩,
  ⟨fun K => (He.ma K (He.ga K "Fence") "widened"), "widened", "Fence.widened", s_Fence_widened, [], fun K => []⟩,
  ⟨fun K => (He.ma K (He.ga K "History") "__init__"), "__init__", "History.__init__", s_History_init, [], fun K => []⟩,
  ⟨fun K => (He.ma K (He.ga K "History") "row"), "row", "History.row", s_History_row, [], fun K => []⟩,
  ⟨fun K => (He.ma K (He.ga K "RingBlocks") "look"), "look", "Blocks.look", s_RingBlocks_look, [], fun K => []⟩,
  ⟨fun K => (He.ma K (He.ga K "RingBlocks") "first_of"), "first_of", "Blocks.first_of", s_RingBlocks_first_of, [], fun K => []⟩,
  ⟨fun K => (He.ma K (He.ga K "RingBlocks") "next_stop"), "next_stop", "Blocks.next_stop", s_RingBlocks_next_stop, [], fun K => []⟩,
  ⟨fun K => (He.ma K (He.ga K "RingBlocks") "settle"), "settle", "Blocks.settle", s_RingBlocks_settle, [], fun K => []⟩,
  ⟨fun K => (He.ma K (He.ga K "RingBlocks") "all_stops"), "all_stops", "Blocks.all_stops", s_RingBlocks_all_stops, [], fun K => []⟩,
  ⟨fun K => (pg K "Ring" "fence"), "fence", "Ring.fence", s_Ring_fence, [], fun K => []⟩,
  ⟨fun K => (pg K "Painter" "name"), "name", "Painter.name", s_Painter_name, [], fun K => []⟩,
  ⟨fun K => (pg K "Painter" "day"), "day", "Painter.day", s_Painter_day, [], fun K => []⟩,
  ⟨fun K => (pg K "Painter" "post"), "post", "Painter.post", s_Painter_post, [], fun K => []⟩,
  ⟨fun K => (pg K "Painter" "stride"), "stride", "Painter.stride", s_Painter_stride, [], fun K => []⟩,
  ⟨fun K => (pg K "Painter" "way"), "way", "Painter.way", s_Painter_way, [], fun K => []⟩,
  ⟨fun K => (pg K "Fence" "painters"), "painters", "Fence.painters", s_Fence_painters, [], fun K => []⟩,
  ⟨fun K => (pg K "Fence" "names"), "names", "Fence.names", s_Fence_names, [], fun K => []⟩,
  ⟨fun K => (pg K "History" "rows"), "rows", "History.rows", s_History_rows, [], fun K => []⟩,
  ⟨fun K => (pg K "History" "last_day"), "last_day", "History.last_day", s_History_last_day, [], fun K => []⟩]
/-! ### the Hook -/
def valsP (g : Addr → Option Obj) (a : Addr) : List Addr := match g a with
  | some ⟨_, _, .dict es _, _⟩ => es.toList.flatMap fun e => He.refV e.val
  | _ => []
def funP (g : Addr → Option Obj) (a : Addr) : List Addr := match g a with
  | some ⟨_, _, .func f, _⟩ => a :: (He.refV f.code ++ (He.refV f.defaults ++ f.closure.map Prod.snd))
  | _ => [a]
def memP (g : Addr → Option Obj) (a : Addr) : List Addr := match g a with
  | some ⟨_, _, .fields vs, _⟩ => a :: vs.toList.flatMap fun v => (He.refV v).flatMap (funP g)
  | _ => funP g a
def gloP (g : Addr → Option Obj) (a : Addr) : List Addr := match g a with
  | some ⟨_, _, .cls cd, _⟩ => a :: cd.ns :: (valsP g cd.ns).flatMap (memP g)
  | _ => funP g a
/-- the objects that are told of: of the module, its defs and classes, and theirs -/
def asP (g : Addr → Option Obj) : List Addr := mainGlobals :: cStatics :: (valsP g mainGlobals).flatMap (gloP g)
def frP (g : Addr → Option Obj) : PySem.W.Frag := He.frT g (asP g)
def exB (K : PySem.W.Frag) : Bool := faL.all (fun f => f.ok K) && (exL.all (fun f => f K) && dfL.all fun d => d.ok K)
abbrev AlP : Type := Bool × List FnX
def obsP (g : Addr → Option Obj) (K : PySem.W.Frag) : AlP := (exB K && He.tabsB g [pR, pS] K, dfL.map fun d => fnX K (d.ad K))
def valP : AlP := (true, dfL.map DefX.val)
structure SaysP (h : Heap) (K : PySem.W.Frag) : Prop where
  b : exB K = true
  fn : dfL.map (fun d => fnX K (d.ad K)) = dfL.map DefX.val
  hd : ∀ p ∈ [pR, pS], PySem.W.codeHdIn K (He.cT K p).1 (He.cT K p).2 = true
  out : ∀ p ∈ [pR, pS], K.lookup (He.cT K p).2 = none
  empty : ∀ p ∈ [pR, pS], h.get? (He.cT K p).2 = some { cls := .none, data := .fields #[] }
theorem says_ofP {h : Heap} (e : obsP h.get? (frP h.get?) = valP) : SaysP h (frP h.get?) := by
  have e1 : (exB (frP h.get?) && He.tabsB h.get? [pR, pS] (frP h.get?)) = true := congrArg (fun z : AlP => z.1) e
  have e2 := congrArg (fun z : AlP => z.2) e
  obtain ⟨b1, b2⟩ := He.ba e1
  have key : ∀ p ∈ [pR, pS], PySem.W.codeHdIn (frP h.get?) (He.cT (frP h.get?) p).1 (He.cT (frP h.get?) p).2 = true ∧ ∃ ob, h.get? (He.cT (frP h.get?) p).2 = some ob ∧ He.emptyTab ob = true := fun p hp => by
    obtain ⟨b3, b4⟩ := He.ba (List.all_eq_true.mp b2 p hp)
    refine ⟨b3, ?_⟩
    split at b4
    · rename_i ob hob
      exact ⟨ob, hob, b4⟩
    · cases b4
  refine ⟨b1, e2, fun p hp => (key p hp).1, fun p hp => ?_, fun p hp => ?_⟩
  · obtain ⟨_, ob, h1, h2⟩ := key p hp
    exact He.frT_none h1 h2
  · obtain ⟨_, ob, h1, h2⟩ := key p hp
    rw [h1, He.emptyTab_eq h2]
def hookP : PySem.W.Hook where
  α := AlP
  obs := fun s => obsP s.heap.get? (frP s.heap.get?)
  val := fun _ => valP
  says := fun _ h => ∃ K : PySem.W.Frag, K.In h ∧ SaysP h K
  of := fun _ _ e => ⟨_, He.frT_in, says_ofP e⟩
  keeps := fun _ _ _ ⟨K, hK, c⟩ k => ⟨K, PySem.W.Frag.In.keeps hK k, ⟨c.b, c.fn, c.hd, c.out, fun p hp => k _ _ (c.empty p hp)⟩⟩
section
variable {K : PySem.W.Frag} {h : Heap} {mg : Str → Option Value}
theorem SaysP.fa (c : SaysP h K) (i : Nat) {f : He.Fa} (e : faL[i]? = some f := by rfl) : f.ok K = true := List.all_eq_true.mp (He.ba c.b).1 f (List.mem_of_getElem? e)
theorem SaysP.ex (c : SaysP h K) (i : Nat) {f : PySem.W.Frag → Bool} (e : exL[i]? = some f := by rfl) : f K = true := List.all_eq_true.mp (He.ba (He.ba c.b).2).1 f (List.mem_of_getElem? e)
theorem SaysP.df (c : SaysP h K) (i : Nat) {d : DefX} (e : dfL[i]? = some d) : fnX K (d.ad K) = d.val ∧ d.ok K = true := by
  have e1 : (dfL.map fun d => fnX K (d.ad K))[i]? = (dfL.map DefX.val)[i]? := by rw [c.fn]
  rw [List.getElem?_map, List.getElem?_map, e] at e1
  exact ⟨Option.some.inj e1, List.all_eq_true.mp (He.ba (He.ba c.b).2).2 d (List.mem_of_getElem? e)⟩
theorem SaysP.fd (c : SaysP h K) (i : Nat) {d : DefX} (e : dfL[i]? = some d) (hc : d.clo = []) : FD K d.name d.qual d.st (d.dfl K) (d.ad K) := (c.df i e).1 |> fun a => DefX.fd hc a (c.df i e).2
end
end PP
end
section
set_option maxHeartbeats 0
/-! The top's run, in four parts: each runs the top anew, so that none holds the looks of all. -/
namespace PH
open PySem PySem.W PySem.Calls PyProof.Rows
abbrev R : OpenRow := OpenLaw.row PySem.Challenge.rw_paintposts_k98_whole_rings_that_nobody_r
abbrev qv : Program := view R.prog [69]
def names : List PySem.Str := (R.prog.main.scope.names.map (·.1)).filter fun x => !(x == ("law" : PySem.Str)) && !(x == ("__name__" : PySem.Str))
def ob (s : SharedT) : PP.AlP := PP.obsP (HandSHeadRun.getT s) (PP.frP (HandSHeadRun.getT s))
theorem ob_eq (s : SharedT) : ob s = PP.hookP.obs s.abs := by
  have e : HandSHeadRun.getT s = s.abs.heap.get? := funext (HandSHeadRun.getT_eq s)
  show PP.obsP (HandSHeadRun.getT s) (PP.frP (HandSHeadRun.getT s)) = PP.obsP s.abs.heap.get? (PP.frP s.abs.heap.get?)
  rw [e]
noncomputable def fin (w : World) (os : OsState) : Option SharedT := HandSHeadRun.endF (HandSHeadRun.stepQ (HandSHeadRun.denQ HandSHeadRun.tabQ) R.prog w) 20000 R.prog w os
noncomputable def lk (w : World) (s : SharedT) : Bool := HandSHeadRun.looksF R.prog (boot_heap w.params) s.abs
noncomputable def sn (s : SharedT) := HandSHeadRun.seenQ qv names (importedModules R.prog.main.body) (fun s => xlAt qv [] s && recOk R.toRowW.records s) s.abs
noncomputable def kf (s : SharedT) : PySem.W.Frag := PP.frP (HandSHeadRun.getT s)
theorem run1 (w : World) : ∀ os : OsState, (fin w os).map (fun s => (lk w s, sn s)) = some (true, openGood qv names) := by
  intro os
  kernel_rfl
theorem run2 (w : World) : ∀ os : OsState, (fin w os).map (fun s => PP.faL.all (fun f => f.ok (kf s)) && PP.exL.all fun f => f (kf s)) = some true := by
  intro os
  kernel_rfl
theorem run3 (w : World) : ∀ os : OsState, (fin w os).map (fun s => PP.dfL.all fun d => d.ok (kf s)) = some true := by
  intro os
  kernel_rfl
theorem run4 (w : World) : ∀ os : OsState, (fin w os).map (fun s => (He.tabsB (HandSHeadRun.getT s) [PP.pR, PP.pS] (kf s), PP.dfL.map fun d => PP.fnX (kf s) (d.ad (kf s)))) = some (true, PP.dfL.map PP.DefX.val) := by
  intro os
  kernel_rfl
theorem run (w : World) : HandSHeadRun.RunEq R qv PP.hookP ob 20000 names w := fun os => by
  have h1 := run1 w os
  have h2 := run2 w os
  have h3 := run3 w os
  have h4 := run4 w os
  show (fin w os).map (fun s => (lk w s, sn s, ob s)) = some (true, openGood qv names, PP.valP)
  cases e : fin w os with
  | none =>
    rw [e] at h2
    cases h2
  | some s =>
    rw [e] at h1 h2 h3 h4
    obtain ⟨a1, a2⟩ := Prod.mk.inj (Option.some.inj h1)
    have b := Option.some.inj h2
    have c : (PP.dfL.all fun d => d.ok (kf s)) = true := Option.some.inj h3
    obtain ⟨d1, d2⟩ := Prod.mk.inj (Option.some.inj h4)
    obtain ⟨b1, b2⟩ := He.ba b
    have x : (PP.exB (kf s) && He.tabsB (HandSHeadRun.getT s) [PP.pR, PP.pS] (kf s)) = true := by
      rw [d1, Bool.and_true]
      show (PP.faL.all (fun f => f.ok (kf s)) && (PP.exL.all (fun f => f (kf s)) && PP.dfL.all fun d => d.ok (kf s))) = true
      rw [b1, b2, c]
      rfl
    exact congrArg some (Prod.ext a1 (Prod.ext a2 (Prod.ext x d2)))
end PH
end
section
set_option maxHeartbeats 4000000
/-! Floor sums, counting, least numbers: plain Lean. -/
namespace PM

/-! ### the least number from 0 on with a property -/
def IsLeast (P : Int → Prop) : Option Int → Prop
  | none => ∀ k, 0 ≤ k → ¬ P k
  | some k => 0 ≤ k ∧ P k ∧ ∀ k', 0 ≤ k' → k' < k → ¬ P k'
theorem IsLeast.uniq {P : Int → Prop} : ∀ {r r' : Option Int}, IsLeast P r → IsLeast P r' → r = r'
  | none, none, _, _ => rfl
  | none, some k, h, h' => absurd h'.2.1 (h k h'.1)
  | some k, none, h, h' => absurd h.2.1 (h' k h.1)
  | some k, some k', h, h' => by
    have h1 : ¬ k < k' := fun q => h'.2.2 k h.1 q h.2.1
    have h2 : ¬ k' < k := fun q => h.2.2 k' h'.1 q h'.2.1
    have : k = k' := by omega
    rw [this]
theorem IsLeast.congr {P Q : Int → Prop} (h : ∀ k, 0 ≤ k → (P k ↔ Q k)) : ∀ {r : Option Int}, IsLeast P r → IsLeast Q r
  | none, a => fun k hk q => a k hk ((h k hk).mpr q)
  | some k, a => ⟨a.1, (h k a.1).mp a.2.1, fun k' h1 h2 q => a.2.2 k' h1 h2 ((h k' h1).mpr q)⟩
theorem least_nat {P : Nat → Prop} : ∀ n : Nat, P n → ∃ m, P m ∧ ∀ m', m' < m → ¬ P m' := by
  intro n
  induction n using Nat.strongRecOn with
  | _ n ih =>
    intro h
    by_cases q : ∃ m, m < n ∧ P m
    · obtain ⟨m, hm, pm⟩ := q
      exact ih m hm pm
    · exact ⟨n, h, fun m' hm pm => q ⟨m', hm, pm⟩⟩
theorem IsLeast.ex (P : Int → Prop) : ∃ r, IsLeast P r := by
  by_cases h : ∃ n : Nat, P n
  · obtain ⟨n, hn⟩ := h
    obtain ⟨m, pm, hm⟩ := least_nat (P := fun n => P n) n hn
    refine ⟨some m, by omega, pm, fun k' h1 h2 => ?_⟩
    have e : ((k'.toNat : Nat) : Int) = k' := by omega
    rw [← e]
    exact hm k'.toNat (by omega)
  · refine ⟨none, fun k hk q => h ⟨k.toNat, ?_⟩⟩
    have e : ((k.toNat : Nat) : Int) = k := by omega
    rw [e]
    exact q

/-! ### floor sums -/
/-- the sum of (a * i + b) / m for i from 0 to n - 1 -/
def FS (m a b : Int) : Nat → Int
  | 0 => 0
  | n + 1 => FS m a b n + (a * n + b) / m
/-- n * (n - 1) / 2 -/
theorem tri_succ (n : Nat) : (((n + 1 : Nat) : Int) * (((n + 1 : Nat) : Int) - 1)) / 2 = ((n : Int) * ((n : Int) - 1)) / 2 + n := by
  have e : (((n + 1 : Nat) : Int) * (((n + 1 : Nat) : Int) - 1)) = (n : Int) * ((n : Int) - 1) + 2 * n := by
    rw [Int.natCast_add]; grind
  rw [e, Int.add_mul_ediv_left _ _ (by decide)]
theorem FS_slope {m : Int} (hm : 0 < m) (a b : Int) : ∀ n : Nat, FS m a b n = (a / m) * ((n : Int) * ((n : Int) - 1) / 2) + FS m (a % m) b n
  | 0 => by simp [FS]
  | n + 1 => by
    have e : a * n + b = ((a % m) * n + b) + m * ((a / m) * n) := by
      have := Int.emod_add_mul_ediv a m
      grind
    have q : (a * n + b) / m = ((a % m) * n + b) / m + (a / m) * n := by
      rw [e, Int.add_mul_ediv_left _ _ (by omega)]
    show FS m a b n + (a * n + b) / m = _ * _ + (FS m (a % m) b n + ((a % m) * n + b) / m)
    rw [FS_slope hm a b n, q, tri_succ]
    grind
theorem FS_offset {m : Int} (hm : 0 < m) (a b : Int) : ∀ n : Nat, FS m a b n = (b / m) * n + FS m a (b % m) n
  | 0 => by simp [FS]
  | n + 1 => by
    have e : a * n + b = (a * n + b % m) + m * (b / m) := by
      have := Int.emod_add_mul_ediv b m
      grind
    have q : (a * n + b) / m = (a * n + b % m) / m + (b / m) := by
      rw [e, Int.add_mul_ediv_left _ _ (by omega)]
    show FS m a b n + (a * n + b) / m = _ * _ + (FS m a (b % m) n + (a * n + b % m) / m)
    rw [FS_offset hm a b n, q, Int.natCast_add]
    grind
theorem mul_mono {a : Int} (ha : 0 ≤ a) {i n : Int} (h : i ≤ n) : a * i ≤ a * n := Int.mul_le_mul_of_nonneg_left h ha
theorem FS_zero {m a b : Int} (hm : 0 < m) (ha : 0 ≤ a) (hb : 0 ≤ b) : ∀ n : Nat, a * n + b < m → FS m a b n = 0
  | 0, _ => rfl
  | n + 1, h => by
    have h1 : a * (n : Int) ≤ a * ((n + 1 : Nat) : Int) := mul_mono ha (by omega)
    have h2 : a * (n : Int) + b < m := by omega
    have h3 : 0 ≤ a * (n : Int) := Int.mul_nonneg ha (by omega)
    have q : (a * (n : Int) + b) / m = 0 := Int.ediv_eq_zero_of_lt (by omega) h2
    show FS m a b n + (a * n + b) / m = 0
    rw [FS_zero hm ha hb n h2, q]
    rfl
/-- more of the other sum -/
theorem FS_add {m a b : Int} (hm : 0 < m) (c : Int) : ∀ n : Nat, FS m a (b + m * c) n = FS m a b n + c * n
  | 0 => by simp [FS]
  | n + 1 => by
    have q : (a * (n : Int) + (b + m * c)) / m = (a * n + b) / m + c := by
      rw [show a * (n : Int) + (b + m * c) = (a * n + b) + m * c by omega, Int.add_mul_ediv_left _ _ (by omega)]
    show FS m a (b + m * c) n + (a * n + (b + m * c)) / m = FS m a b n + (a * n + b) / m + c * _
    rw [FS_add hm c n, q, Int.natCast_add]
    grind
theorem FS_shift {m a b : Int} : ∀ n : Nat, FS m a b (n + 1) = b / m + FS m a (b + a) n
  | 0 => by simp [FS]
  | n + 1 => by
    have e := FS_shift (m := m) (a := a) (b := b) n
    show FS m a b (n + 1) + (a * ((n + 1 : Nat) : Int) + b) / m = b / m + (FS m a (b + a) n + (a * (n : Int) + (b + a)) / m)
    rw [e]
    have : a * ((n + 1 : Nat) : Int) + b = a * (n : Int) + (b + a) := by rw [Int.natCast_add]; grind
    rw [this]
    omega
/-- the turn of the floor sum -/
theorem FS_turn {m a b : Int} (hm : 0 < m) (ha : 0 < a) (ham : a < m) (hb : 0 ≤ b) (hbm : b < m) : ∀ n : Nat,
    FS m a b n = FS a m ((a * n + b) % m) ((a * n + b) / m).toNat
  | 0 => by
    have e : (a * ((0 : Nat) : Int) + b) / m = 0 := by
      have : a * ((0 : Nat) : Int) + b = b := by simp
      rw [this]
      exact Int.ediv_eq_zero_of_lt hb hbm
    rw [e]
    rfl
  | n + 1 => by
    have ih := FS_turn hm ha ham hb hbm n
    generalize eN : (a * (n : Int) + b) / m = N at ih
    generalize er : (a * (n : Int) + b) % m = r at ih
    have hq : r + m * N = a * (n : Int) + b := by
      rw [← eN, ← er]
      exact Int.emod_add_mul_ediv _ _
    have r0 : 0 ≤ r := by
      rw [← er]
      exact Int.emod_nonneg _ (by omega)
    have rm : r < m := by
      rw [← er]
      exact Int.emod_lt_of_pos _ hm
    have N0 : 0 ≤ N := by
      rw [← eN]
      exact Int.ediv_nonneg (by have := Int.mul_nonneg (Int.le_of_lt ha) (Int.natCast_nonneg n); omega) (by omega)
    have et : a * ((n + 1 : Nat) : Int) + b = (r + a) + m * N := by rw [Int.natCast_add]; grind
    show FS m a b n + (a * n + b) / m = _
    rw [ih, eN, et]
    have hNc : ((N.toNat : Nat) : Int) = N := by omega
    have hadd : FS a m (r + a) N.toNat = FS a m r N.toNat + N := by
      have := FS_add (m := a) (a := m) (b := r) ha 1 N.toNat
      rw [Int.mul_one, Int.one_mul, hNc] at this
      exact this
    by_cases hlt : r + a < m
    · have h1 : ((r + a) + m * N) % m = r + a := by
        rw [Int.add_mul_emod_self_left]
        exact Int.emod_eq_of_lt (by omega) hlt
      have h2 : ((r + a) + m * N) / m = N := by
        rw [Int.add_mul_ediv_left _ _ (by omega), Int.ediv_eq_zero_of_lt (by omega) hlt]
        omega
      rw [h1, h2, hadd]
    · have e2 : (r + a) + m * N = (r + a - m) + m * (N + 1) := by grind
      have h1 : ((r + a) + m * N) % m = r + a - m := by
        rw [e2, Int.add_mul_emod_self_left]
        exact Int.emod_eq_of_lt (by omega) (by omega)
      have h2 : ((r + a) + m * N) / m = N + 1 := by
        rw [e2, Int.add_mul_ediv_left _ _ (by omega), Int.ediv_eq_zero_of_lt (by omega) (by omega)]
        omega
      rw [h1, h2]
      have hN1 : (N + 1).toNat = N.toNat + 1 := by omega
      rw [hN1, FS_shift, show r + a - m + m = r + a by omega, hadd]
      have : (r + a - m) / a = 0 := Int.ediv_eq_zero_of_lt (by omega) (by omega)
      omega

/-! ### counting by a difference of floor sums -/
theorem FS_diff {m a b a' b' : Int} {P : Nat → Prop} : ∀ n : Nat,
    (∀ i : Nat, i < n → ((P i ∧ (a * i + b) / m - (a' * i + b') / m = 1) ∨ (¬ P i ∧ (a * i + b) / m - (a' * i + b') / m = 0))) →
    0 ≤ FS m a b n - FS m a' b' n ∧ (0 < FS m a b n - FS m a' b' n ↔ ∃ i, i < n ∧ P i)
  | 0, _ => ⟨by simp [FS], by simp [FS]⟩
  | n + 1, h => by
    obtain ⟨i1, i2⟩ := FS_diff n fun i hi => h i (by omega)
    have e : FS m a b (n + 1) - FS m a' b' (n + 1) = (FS m a b n - FS m a' b' n) + ((a * n + b) / m - (a' * n + b') / m) := by
      show (FS m a b n + (a * n + b) / m) - (FS m a' b' n + (a' * n + b') / m) = _
      omega
    rw [e]
    rcases h n (by omega) with ⟨p, q⟩ | ⟨p, q⟩
    · rw [q]
      refine ⟨by omega, fun _ => ⟨n, by omega, p⟩, fun _ => by omega⟩
    · rw [q]
      refine ⟨by omega, fun z => ?_, fun ⟨i, hi, pi⟩ => ?_⟩
      · obtain ⟨i, hi, pi⟩ := i2.mp (by omega)
        exact ⟨i, by omega, pi⟩
      · by_cases en : i = n
        · rw [en] at pi
          exact absurd pi p
        · have := i2.mpr ⟨i, by omega, pi⟩
          omega
/-- one window: X / m - (X - W) / m tells whether X % m < W -/
theorem window {m X W : Int} (hm : 0 < m) (h0 : 0 ≤ W) (h1 : W ≤ m) : (X % m < W ∧ X / m - (X - W) / m = 1) ∨ (¬ X % m < W ∧ X / m - (X - W) / m = 0) := by
  have e := Int.emod_add_mul_ediv X m
  have r0 := Int.emod_nonneg X (show m ≠ 0 by omega)
  have r1 := Int.emod_lt_of_pos X hm
  generalize X % m = r at *
  generalize X / m = q at *
  by_cases h : r < W
  · refine .inl ⟨h, ?_⟩
    have : X - W = (r - W + m) + m * (q - 1) := by grind
    rw [this, Int.add_mul_ediv_left _ _ (by omega), Int.ediv_eq_zero_of_lt (by omega) (by omega)]
    omega
  · refine .inr ⟨h, ?_⟩
    have : X - W = (r - W) + m * q := by grind
    rw [this, Int.add_mul_ediv_left _ _ (by omega), Int.ediv_eq_zero_of_lt (by omega) (by omega)]
    omega

end PM
end
section
set_option maxHeartbeats 4000000
/-! Crossings of two ways: on the fence, on the ring. Plain Lean. -/
namespace PM

/-! ### inverses -/
/-- what inverse(a, m) gives -/
def InvOk (a m t : Int) : Prop := 0 ≤ t ∧ t < m ∧ m ∣ a * t - 1
theorem dvd_of_emod {a b m : Int} (h : m ∣ a - b) : a % m = b % m := Int.emod_eq_emod_iff_emod_sub_eq_zero.mpr (Int.emod_eq_zero_of_dvd h)
theorem InvOk.solve {a m t : Int} (h : InvOk a m t) {k c : Int} (e : m ∣ k * a - c) : m ∣ k - c * t := by
  obtain ⟨u, hu⟩ := h.2.2
  obtain ⟨v, hv⟩ := e
  exact ⟨v * t - k * u, by grind⟩
theorem InvOk.back {a m t : Int} (h : InvOk a m t) {k c : Int} (e : m ∣ k - c * t) : m ∣ k * a - c := by
  obtain ⟨u, hu⟩ := h.2.2
  obtain ⟨v, hv⟩ := e
  exact ⟨v * a + c * u, by grind⟩
theorem emod_dvd_sub (a m : Int) : m ∣ a - a % m := ⟨a / m, by have := Int.emod_add_mul_ediv a m; omega⟩
theorem dvd_sub_emod (a m : Int) : m ∣ a % m - a := ⟨-(a / m), by have := Int.emod_add_mul_ediv a m; grind⟩
theorem dvd_add' {a b m : Int} (h : m ∣ a) (h' : m ∣ b) : m ∣ a + b := Int.dvd_add h h'
theorem eq_emod {j c m : Int} (h0 : 0 ≤ j) (h1 : j < m) (h : m ∣ j - c) : j = c % m := by
  have e := dvd_of_emod h
  rw [Int.emod_eq_of_lt h0 h1] at e
  exact e
theorem gcd_pos_r {a b : Int} (h : b ≠ 0) : 0 < ((Int.gcd a b : Nat) : Int) := by
  have : 0 < Int.gcd a b := Int.gcd_pos_of_ne_zero_right _ h
  omega
theorem gcd_pos_l {a b : Int} (h : a ≠ 0) : 0 < ((Int.gcd a b : Nat) : Int) := by
  have : 0 < Int.gcd a b := Int.gcd_pos_of_ne_zero_left _ h
  omega

/-! ### the fence -/
structure CrOk (x1 s1 x2 s2 : Int) (em : Bool) (step ostep start ostart : Int) : Prop where
  pos : 0 < step
  st0 : 0 ≤ start
  st1 : start < step
  key : ∀ k j : Int, x1 + k * s1 = x2 + j * s2 ↔ em = false ∧ ∃ m, k = start + m * step ∧ j = ostart + m * ostep
theorem sgn_ring {m e a g b : Int} (ee : e * e = 1) : m * (e * a) * (e * (g * b)) = m * b * (g * a) := by
  have : m * (e * a) * (e * (g * b)) = (e * e) * (m * b * (g * a)) := by grind
  rw [this, ee, Int.one_mul]
def absI (a : Int) : Int := if a < 0 then -a else a
theorem cross_ok {x1 s1 x2 s2 g t ostart : Int} (h1 : s1 ≠ 0) (h2 : s2 ≠ 0) (hg : g = ((Int.gcd s1 s2 : Nat) : Int)) (ht : InvOk (s1 / g) (absI s2 / g) t)
    (ho : s2 ∣ x1 + (((x2 - x1) / g) * t % (absI s2 / g)) * s1 - x2 → ostart * s2 = x1 + (((x2 - x1) / g) * t % (absI s2 / g)) * s1 - x2) :
    CrOk x1 s1 x2 s2 (decide ((x2 - x1) % g ≠ 0)) (absI s2 / g) (if s2 > 0 then s1 / g else -(s1 / g)) (((x2 - x1) / g) * t % (absI s2 / g)) ostart := by
  have g0 : 0 < g := by rw [hg]; exact gcd_pos_l h1
  have d1 : g ∣ s1 := by rw [hg]; exact Int.gcd_dvd_left _ _
  have d2 : g ∣ s2 := by rw [hg]; exact Int.gcd_dvd_right _ _
  have d2a : g ∣ absI s2 := by
    unfold absI
    split
    · exact (Int.dvd_neg).mpr d2
    · exact d2
  have a0 : 0 < absI s2 := by unfold absI; split <;> omega
  obtain ⟨a, ea⟩ := d1
  obtain ⟨b, eb⟩ := d2a
  have qa : s1 / g = a := by rw [ea, Int.mul_ediv_cancel_left _ (by omega)]
  have qb : absI s2 / g = b := by rw [eb, Int.mul_ediv_cancel_left _ (by omega)]
  have b0 : 0 < b := by
    rw [eb] at a0
    exact Int.pos_of_mul_pos_right a0 g0 |> fun h => h
  rw [qa, qb] at ht
  rw [qb] at ho
  rw [qa, qb]
  generalize est : ((x2 - x1) / g) * t % b = start at ho ⊢
  have s0 : 0 ≤ start := by rw [← est]; exact Int.emod_nonneg _ (by omega)
  have s1' : start < b := by rw [← est]; exact Int.emod_lt_of_pos _ b0
  have sg : ∃ e : Int, s2 = e * (g * b) ∧ e * e = 1 ∧ (if s2 > 0 then a else -a) = e * a := by
    unfold absI at eb
    by_cases h : s2 < 0
    · rw [if_pos h] at eb
      exact ⟨-1, by omega, by decide, by rw [if_neg (by omega)]; omega⟩
    · rw [if_neg h] at eb
      exact ⟨1, by omega, by decide, by rw [if_pos (by omega)]; omega⟩
  obtain ⟨e, es, ee, eo⟩ := sg
  refine ⟨b0, s0, s1', fun k j => ⟨fun h => ?_, fun ⟨hem, m, hk, hj⟩ => ?_⟩⟩
  · have hd : g ∣ x2 - x1 := ⟨k * a - j * (e * b), by rw [ea] at h; rw [es] at h; grind⟩
    have hr : (x2 - x1) % g = 0 := Int.emod_eq_zero_of_dvd hd
    obtain ⟨gap, eg⟩ := hd
    have qg : (x2 - x1) / g = gap := by rw [eg, Int.mul_ediv_cancel_left _ (by omega)]
    rw [qg] at est
    refine ⟨by rw [hr]; rfl, ?_⟩
    have hk1 : g * (k * a - j * (e * b)) = g * gap := by rw [ea, es] at h; grind
    have hk2 : k * a - j * (e * b) = gap := Int.eq_of_mul_eq_mul_left (by omega) hk1
    have hk0 : b ∣ k * a - gap := ⟨j * e, by grind⟩
    have hk3 : b ∣ k - gap * t := ht.solve hk0
    have hk4 : b ∣ k - start := by
      rw [← est]
      have := dvd_add' hk3 (emod_dvd_sub (gap * t) b)
      rw [show k - gap * t + (gap * t - gap * t % b) = k - gap * t % b by omega] at this
      exact this
    obtain ⟨m, hm⟩ := hk4
    have hkm : k = start + m * b := by grind
    refine ⟨m, hkm, ?_⟩
    have q1 : (j - m * (e * a)) * s2 = x1 + start * s1 - x2 := by
      have : m * (e * a) * s2 = m * b * s1 := by rw [es, ea]; exact sgn_ring ee
      grind
    have q2 := ho ⟨j - m * (e * a), by rw [← q1]; grind⟩
    have q3 : (j - m * (e * a)) * s2 = ostart * s2 := by rw [q1, q2]
    have q4 := Int.eq_of_mul_eq_mul_right h2 q3
    rw [eo]
    omega
  · have hr : (x2 - x1) % g = 0 := by
      have := hem
      simpa using this
    obtain ⟨gap, eg⟩ := Int.dvd_of_emod_eq_zero hr
    have qg : (x2 - x1) / g = gap := by rw [eg, Int.mul_ediv_cancel_left _ (by omega)]
    rw [qg] at est
    have hb : b ∣ start * a - gap := ht.back (by rw [← est]; exact dvd_sub_emod _ _)
    obtain ⟨v, hv⟩ := hb
    have q1 : x1 + start * s1 - x2 = (v * e) * s2 := by
      have : x1 - x2 = -(g * gap) := by omega
      rw [es, ea]
      grind
    have q2 := ho ⟨v * e, by rw [q1]; grind⟩
    rw [hk, hj, eo]
    have z : m * (e * a) * s2 = m * b * s1 := by rw [es, ea]; exact sgn_ring ee
    clear ho est hv hem qa qb eb ea es
    have z1 : (start + m * b) * s1 = start * s1 + m * b * s1 := Int.add_mul _ _ _
    have z2 : (ostart + m * (e * a)) * s2 = ostart * s2 + m * (e * a) * s2 := Int.add_mul _ _ _
    rw [z1, z2, z, q2]
    omega

/-- least_fit -/
def fit : List (Int × Int) → Int → Option Int → Int × Option Int
  | [], lo, none => (lo, none)
  | [], lo, some h => if lo ≤ h then (lo, some h) else (1, some 0)
  | (b, g) :: r, lo, hi => if g > 0 then fit r (if -(b / g) > lo then -(b / g) else lo) hi
    else if g < 0 then fit r lo (some (match hi with
      | none => b / -g
      | some h => if b / -g < h then b / -g else h))
    else if b < 0 then (1, some 0) else fit r lo hi
def Below (m : Int) (hi : Option Int) : Prop := ∀ h, hi = some h → m ≤ h
def FitOk (L : List (Int × Int)) (lo : Int) (hi : Option Int) (r : Int × Option Int) : Prop :=
  0 ≤ r.1 ∧ ∀ m, 0 ≤ m → ((lo ≤ m ∧ Below m hi ∧ ∀ c ∈ L, 0 ≤ c.1 + m * c.2) ↔ (r.1 ≤ m ∧ Below m r.2))
theorem neg_div_le {b g m : Int} (hg : 0 < g) : -(b / g) ≤ m ↔ 0 ≤ b + m * g := by
  have : -(b / g) ≤ m ↔ -m ≤ b / g := by omega
  rw [this, Int.le_ediv_iff_mul_le hg]
  have e : -m * g = -(m * g) := by grind
  rw [e]
  omega
theorem le_div_neg {b g m : Int} (hg : g < 0) : m ≤ b / -g ↔ 0 ≤ b + m * g := by
  rw [Int.le_ediv_iff_mul_le (by omega)]
  have e : m * -g = -(m * g) := by grind
  rw [e]
  omega
theorem fit_ok : ∀ (L : List (Int × Int)) (lo : Int) (hi : Option Int), 0 ≤ lo → FitOk L lo hi (fit L lo hi)
  | [], lo, none, h => ⟨h, fun m _ => by simp [fit, Below]⟩
  | [], lo, some b, h => by
    unfold fit
    by_cases q : lo ≤ b
    · rw [if_pos q]
      exact ⟨h, fun m _ => by simp [Below]⟩
    · rw [if_neg q]
      refine ⟨by decide, fun m hm => ?_⟩
      simp [Below]
      omega
  | (b, g) :: r, lo, hi, h => by
    unfold fit
    by_cases g0 : g > 0
    · rw [if_pos g0]
      generalize eL : (if -(b / g) > lo then -(b / g) else lo) = l2
      have hl : ∀ m, l2 ≤ m ↔ lo ≤ m ∧ 0 ≤ b + m * g := fun m => by
        rw [← neg_div_le g0, ← eL]
        split <;> omega
      have l20 : 0 ≤ l2 := by rw [← eL]; split <;> omega
      obtain ⟨i1, i2⟩ := fit_ok r l2 hi l20
      refine ⟨i1, fun m hm => ?_⟩
      rw [← i2 m hm, hl]
      simp only [List.mem_cons, forall_eq_or_imp]
      grind
    · rw [if_neg g0]
      by_cases gn : g < 0
      · rw [if_pos gn]
        generalize eH : (match hi with
          | none => b / -g
          | some h => if b / -g < h then b / -g else h) = h2
        have hh : ∀ m, Below m (some h2) ↔ Below m hi ∧ 0 ≤ b + m * g := fun m => by
          rw [← le_div_neg gn, ← eH]
          cases hi with
          | none => simp [Below]
          | some h =>
            simp only [Below, Option.some.injEq, forall_eq']
            split <;> omega
        obtain ⟨i1, i2⟩ := fit_ok r lo (some h2) h
        refine ⟨i1, fun m hm => ?_⟩
        rw [← i2 m hm, hh]
        simp only [List.mem_cons, forall_eq_or_imp]
        grind
      · rw [if_neg gn]
        have ge : g = 0 := by omega
        by_cases b0 : b < 0
        · rw [if_pos b0]
          refine ⟨by decide, fun m hm => ?_⟩
          simp only [List.mem_cons, forall_eq_or_imp]
          simp [Below, ge]
          omega
        · rw [if_neg b0]
          obtain ⟨i1, i2⟩ := fit_ok r lo hi h
          refine ⟨i1, fun m hm => ?_⟩
          rw [← i2 m hm]
          simp only [List.mem_cons, forall_eq_or_imp]
          subst ge
          simp
          omega

/-- one way is blocked at its number k by the other one that paints cnt posts (all: none) -/
def PF (d1 x1 s1 d2 x2 s2 : Int) (cnt : Option Int) (e : Bool) (k : Int) : Prop :=
  ∃ j, 0 ≤ j ∧ x1 + k * s1 = x2 + j * s2 ∧ (∀ c, cnt = some c → j < c) ∧ d2 + j + (if e then 0 else 1) ≤ d1 + k
/-- the conditions of first_block -/
def lateF (d1 d2 start ostart : Int) (e : Bool) : Int := d1 + start - d2 - ostart - (if e then 0 else 1)
def condsF (d1 d2 step ostep start ostart : Int) (cnt : Option Int) (e : Bool) : List (Int × Int) :=
  (ostart, ostep) :: (lateF d1 d2 start ostart e, step - ostep) :: (match cnt with
    | none => []
    | some c => [(c - 1 - ostart, -ostep)])
def firstF (em : Bool) (step start : Int) (r : Int × Option Int) : Option Int :=
  match em with
  | true => none
  | false => match r.2 with
    | none => some (start + r.1 * step)
    | some h => if r.1 ≤ h then some (start + r.1 * step) else none
theorem first_ok {d1 x1 s1 d2 x2 s2 : Int} {em : Bool} {step ostep start ostart : Int} {cnt : Option Int} {e : Bool} (C : CrOk x1 s1 x2 s2 em step ostep start ostart) :
    IsLeast (PF d1 x1 s1 d2 x2 s2 cnt e) (firstF em step start (fit (condsF d1 d2 step ostep start ostart cnt e) 0 none)) := by
  obtain ⟨hp, s0, s1', key⟩ := C
  have main : ∀ m : Int, em = false → ((0 ≤ start + m * step ∧ PF d1 x1 s1 d2 x2 s2 cnt e (start + m * step)) ↔ (0 ≤ m ∧ ∀ c ∈ condsF d1 d2 step ostep start ostart cnt e, 0 ≤ c.1 + m * c.2)) := by
    intro m hem
    have hm0 : 0 ≤ start + m * step ↔ 0 ≤ m := by
      constructor
      · intro h
        by_cases q : 0 ≤ m
        · exact q
        · have : m * step ≤ -1 * step := Int.mul_le_mul_of_nonneg_right (by omega) (by omega)
          omega
      · intro h
        have : 0 ≤ m * step := Int.mul_nonneg h (by omega)
        omega
    have hP : PF d1 x1 s1 d2 x2 s2 cnt e (start + m * step) ↔ (0 ≤ ostart + m * ostep ∧ (∀ c, cnt = some c → ostart + m * ostep < c) ∧ d2 + (ostart + m * ostep) + (if e then 0 else 1) ≤ d1 + (start + m * step)) := by
      constructor
      · rintro ⟨j, j0, hj, hc, hd⟩
        obtain ⟨_, m', hm', hj'⟩ := (key _ _).mp hj
        have : m' = m := by
          have : m' * step = m * step := by omega
          exact Int.eq_of_mul_eq_mul_right (by omega) this
        subst this
        rw [← hj']
        exact ⟨j0, hc, hd⟩
      · rintro ⟨j0, hc, hd⟩
        exact ⟨_, j0, (key _ _).mpr ⟨hem, m, rfl, rfl⟩, hc, hd⟩
    rw [hm0, hP]
    unfold condsF lateF
    have e1 : m * (step - ostep) = m * step - m * ostep := by grind
    have e2 : m * -ostep = -(m * ostep) := by grind
    cases cnt with
    | none =>
      simp only [List.mem_cons, forall_eq_or_imp, List.not_mem_nil, false_implies, implies_true, and_true, e1]
      constructor
      · rintro ⟨h1, h2, _, h3⟩; exact ⟨h1, by omega, by omega⟩
      · rintro ⟨h1, h2, h3⟩; exact ⟨h1, by omega, fun c z => (nomatch z), by omega⟩
    | some c =>
      simp only [List.mem_cons, forall_eq_or_imp, List.not_mem_nil, false_implies, implies_true, and_true, e1, e2, Option.some.injEq, forall_eq']
      omega
  cases em with
  | true =>
    intro k _ ⟨j, _, hj, _⟩
    exact absurd ((key _ _).mp hj).1 (by decide)
  | false =>
    obtain ⟨f0, f1⟩ := fit_ok (condsF d1 d2 step ostep start ostart cnt e) 0 none (Int.le_refl _)
    generalize fit (condsF d1 d2 step ostep start ostart cnt e) 0 none = r at *
    have fm : ∀ m, 0 ≤ m → ((∀ c ∈ condsF d1 d2 step ostep start ostart cnt e, 0 ≤ c.1 + m * c.2) ↔ (r.1 ≤ m ∧ Below m r.2)) := fun m hm => by
      rw [← f1 m hm]
      simp [Below, hm]
    have form : ∀ k, PF d1 x1 s1 d2 x2 s2 cnt e k → ∃ m, k = start + m * step := fun k ⟨j, _, hj, _⟩ => by
      obtain ⟨_, m, hm, _⟩ := (key _ _).mp hj
      exact ⟨m, hm⟩
    have below : ∀ m, 0 ≤ start + m * step → PF d1 x1 s1 d2 x2 s2 cnt e (start + m * step) → r.1 ≤ m ∧ Below m r.2 := fun m h0 hp' => by
      obtain ⟨q0, q1⟩ := (main m rfl).mp ⟨h0, hp'⟩
      exact (fm m q0).mp q1
    have yes : Below r.1 r.2 → IsLeast (PF d1 x1 s1 d2 x2 s2 cnt e) (some (start + r.1 * step)) := fun hb => by
      obtain ⟨p0, p1⟩ := (main r.1 rfl).mpr ⟨f0, (fm r.1 f0).mpr ⟨Int.le_refl _, hb⟩⟩
      refine ⟨p0, p1, fun k' h0 hlt hp' => ?_⟩
      obtain ⟨m, rfl⟩ := form k' hp'
      have := (below m h0 hp').1
      have h3 : r.1 * step ≤ m * step := Int.mul_le_mul_of_nonneg_right this (by omega)
      omega
    unfold firstF
    cases hr : r.2 with
    | none =>
      exact yes (by rw [hr]; exact fun h z => nomatch z)
    | some h =>
      dsimp only
      by_cases q : r.1 ≤ h
      · rw [if_pos q]
        exact yes (by rw [hr]; intro h' z; cases z; exact q)
      · rw [if_neg q]
        intro k hk hp'
        obtain ⟨m, rfl⟩ := form k hp'
        obtain ⟨b1, b2⟩ := below m hk hp'
        have := b2 h hr
        omega

end PM
end
section
set_option maxHeartbeats 4000000
/-! The ring's crossings. Plain Lean. -/
namespace PM

structure RcOk (n x1 s1 x2 s2 : Int) (em : Bool) (cyc step start slope off : Int) : Prop where
  c0 : 0 < cyc
  pos : 0 < step
  st0 : 0 ≤ start
  st1 : start < step
  key : ∀ k j : Int, 0 ≤ j → j < cyc → (n ∣ (x1 + k * s1) - (x2 + j * s2) ↔ em = false ∧ ∃ m, k = start + m * step ∧ j = (off + slope * m) % cyc)
theorem ring_ok {n x1 s1 x2 s2 g c t1 t2 : Int} (hn : 0 < n) (hg : g = ((Int.gcd (s2 % n) n : Nat) : Int)) (hc : c = ((Int.gcd (s1 % n) g : Nat) : Int))
    (ht1 : InvOk (s1 % n / c) (g / c) t1) (ht2 : InvOk (s2 % n / g) (n / g) t2) :
    RcOk n x1 s1 x2 s2 (decide ((x1 - x2) % c ≠ 0)) (n / g) (g / c) (-((x1 - x2) / c) * t1 % (g / c)) ((g / c) * (s1 % n) / g * t2 % (n / g))
      ((x1 - x2 + (-((x1 - x2) / c) * t1 % (g / c)) * (s1 % n)) / g * t2 % (n / g)) := by
  have g0 : 0 < g := by rw [hg]; exact gcd_pos_r (by omega)
  have c0 : 0 < c := by rw [hc]; exact gcd_pos_r (by omega)
  have d1 : g ∣ s2 % n := by rw [hg]; exact Int.gcd_dvd_left _ _
  have d2 : g ∣ n := by rw [hg]; exact Int.gcd_dvd_right _ _
  have d3 : c ∣ s1 % n := by rw [hc]; exact Int.gcd_dvd_left _ _
  have d4 : c ∣ g := by rw [hc]; exact Int.gcd_dvd_right _ _
  have e1 : n ∣ s1 % n - s1 := dvd_sub_emod _ _
  have e2 : n ∣ s2 % n - s2 := dvd_sub_emod _ _
  generalize s1 % n = p at *
  generalize s2 % n = o at *
  generalize egap : x1 - x2 = gap
  obtain ⟨b, hb⟩ := d4
  obtain ⟨a, ha⟩ := d3
  obtain ⟨cy, hcy⟩ := d2
  obtain ⟨o', ho'⟩ := d1
  have q1 : p / c = a := by rw [ha, Int.mul_ediv_cancel_left _ (by omega)]
  have q2 : g / c = b := by rw [hb, Int.mul_ediv_cancel_left _ (by omega)]
  have q3 : n / g = cy := by rw [hcy, Int.mul_ediv_cancel_left _ (by omega)]
  have q4 : o / g = o' := by rw [ho', Int.mul_ediv_cancel_left _ (by omega)]
  rw [q1, q2] at ht1
  rw [q3, q4] at ht2
  rw [q2, q3]
  have b0 : 0 < b := by rw [hb] at g0; exact Int.pos_of_mul_pos_right g0 c0
  have cy0 : 0 < cy := by rw [hcy] at hn; exact Int.pos_of_mul_pos_right hn g0
  generalize est : -(gap / c) * t1 % b = start
  have s0 : 0 ≤ start := by rw [← est]; exact Int.emod_nonneg _ (by omega)
  have s1' : start < b := by rw [← est]; exact Int.emod_lt_of_pos _ b0
  have qs : b * p / g = a := by
    have : b * p = g * a := by rw [ha, hb]; grind
    rw [this, Int.mul_ediv_cancel_left _ (by omega)]
  rw [qs]
  -- where start leads
  have lead : gap % c = 0 → ∃ A, gap + start * p = g * A ∧ (gap + start * p) / g = A := fun hr => by
    obtain ⟨gp, eg⟩ := Int.dvd_of_emod_eq_zero hr
    have qg : gap / c = gp := by rw [eg, Int.mul_ediv_cancel_left _ (by omega)]
    rw [qg] at est
    have h1 : b ∣ start * a - -gp := ht1.back (by rw [← est]; exact dvd_sub_emod _ _)
    obtain ⟨A, hA⟩ := h1
    have h2 : gap + start * p = g * A := by
      rw [eg, ha, hb]
      clear est
      grind
    exact ⟨A, h2, by rw [h2, Int.mul_ediv_cancel_left _ (by omega)]⟩
  have toN : ∀ k j : Int, n ∣ (x1 + k * s1) - (x2 + j * s2) ↔ n ∣ gap + k * p - j * o := fun k j => by
    obtain ⟨u, hu⟩ := e1
    obtain ⟨v, hv⟩ := e2
    have e : gap + k * p - j * o = ((x1 + k * s1) - (x2 + j * s2)) + n * (k * u - j * v) := by
      have h1 : p = s1 + n * u := by omega
      have h2 : o = s2 + n * v := by omega
      rw [h1, h2, ← egap]
      grind
    rw [e]
    constructor
    · rintro ⟨w, hw⟩; exact ⟨w + (k * u - j * v), by rw [hw]; grind⟩
    · rintro ⟨w, hw⟩; exact ⟨w - (k * u - j * v), by clear egap ha hb hcy ho' q1 q2 q3 q4 est qs; grind⟩
  refine ⟨cy0, b0, s0, s1', fun k j j0 j1 => ?_⟩
  rw [toN]
  constructor
  · rintro ⟨w, hw⟩
    have hd : c ∣ gap := by
      refine ⟨b * cy * w - k * a + j * b * o', ?_⟩
      have : gap = n * w - k * p + j * o := by omega
      rw [this, hcy, hb, ha, ho', hb]
      clear hw est qs q1 q2 q3 q4 this
      grind
    have hr : gap % c = 0 := Int.emod_eq_zero_of_dvd hd
    obtain ⟨A, hA, qA⟩ := lead hr
    refine ⟨by rw [hr]; rfl, ?_⟩
    obtain ⟨gp, eg⟩ := hd
    have qg : gap / c = gp := by rw [eg, Int.mul_ediv_cancel_left _ (by omega)]
    have hk0 : b ∣ k * a - -gp := by
      refine ⟨cy * w + j * o', ?_⟩
      have z : c * (k * a - -gp) = c * (b * (cy * w + j * o')) := by
        have h1 : c * (k * a - -gp) = k * (c * a) + c * gp := by grind
        rw [h1, ← ha, ← eg]
        have h2 : c * (b * (cy * w + j * o')) = ((c * b) * cy) * w + j * ((c * b) * o') := by grind
        rw [h2, ← hb, ← hcy, ← ho']
        omega
      exact Int.eq_of_mul_eq_mul_left (by omega) z
    have hk1 := ht1.solve hk0
    rw [qg] at est
    have hk2 : b ∣ k - start := by
      rw [← est]
      have := dvd_add' hk1 (emod_dvd_sub (-gp * t1) b)
      rw [show k - -gp * t1 + (-gp * t1 - -gp * t1 % b) = k - -gp * t1 % b by omega] at this
      exact this
    obtain ⟨m, hm⟩ := hk2
    have hkm : k = start + m * b := by
      have : b * m = m * b := Int.mul_comm _ _
      omega
    refine ⟨m, hkm, ?_⟩
    rw [qA]
    have hu : gap + k * p = g * (A + m * a) := by
      have h1 : k * p = start * p + m * (b * p) := by rw [hkm]; grind
      have h2 : b * p = g * a := by rw [ha, hb]; grind
      rw [h1, h2]
      have h3 : g * (A + m * a) = g * A + m * (g * a) := by grind
      rw [h3]
      omega
    have hj0 : cy ∣ j * o' - (A + m * a) := by
      refine ⟨-w, ?_⟩
      have z : g * (j * o' - (A + m * a)) = g * (cy * -w) := by
        have h1 : g * (j * o' - (A + m * a)) = j * (g * o') - g * (A + m * a) := by grind
        rw [h1, ← ho', ← hu]
        have h2 : g * (cy * -w) = -((g * cy) * w) := by grind
        rw [h2, ← hcy]
        omega
      exact Int.eq_of_mul_eq_mul_left (by omega) z
    have hj1 := ht2.solve hj0
    refine eq_emod j0 j1 ?_
    obtain ⟨y1, hy1⟩ := hj1
    obtain ⟨y2, hy2⟩ := emod_dvd_sub (A * t2) cy
    obtain ⟨y3, hy3⟩ := emod_dvd_sub (a * t2) cy
    refine ⟨y1 + y2 + y3 * m, ?_⟩
    have z1 : (A + m * a) * t2 = A * t2 + (a * t2) * m := by grind
    have z2 : cy * (y1 + y2 + y3 * m) = cy * y1 + cy * y2 + (cy * y3) * m := by grind
    rw [z2, ← hy1, ← hy2, ← hy3, z1]
    have z3 : (a * t2 - a * t2 % cy) * m = a * t2 * m - a * t2 % cy * m := Int.sub_mul _ _ _
    rw [z3]
    omega
  · rintro ⟨hem, m, hk, hj⟩
    have hr : gap % c = 0 := by simpa using hem
    obtain ⟨A, hA, qA⟩ := lead hr
    rw [qA] at hj
    have hu : gap + k * p = g * (A + m * a) := by
      have h1 : k * p = start * p + m * (b * p) := by rw [hk]; grind
      have h2 : b * p = g * a := by rw [ha, hb]; grind
      rw [h1, h2]
      have h3 : g * (A + m * a) = g * A + m * (g * a) := by grind
      rw [h3]
      omega
    have hj1 : cy ∣ j - (A + m * a) * t2 := by
      obtain ⟨y1, hy1⟩ := dvd_sub_emod (A * t2 % cy + a * t2 % cy * m) cy
      obtain ⟨y2, hy2⟩ := dvd_sub_emod (A * t2) cy
      obtain ⟨y3, hy3⟩ := dvd_sub_emod (a * t2) cy
      refine ⟨y1 + y2 + y3 * m, ?_⟩
      have z1 : (A + m * a) * t2 = A * t2 + (a * t2) * m := by grind
      have z2 : cy * (y1 + y2 + y3 * m) = cy * y1 + cy * y2 + (cy * y3) * m := by grind
      rw [z2, ← hy1, ← hy2, ← hy3, z1, hj]
      have z3 : (a * t2 % cy - a * t2) * m = a * t2 % cy * m - a * t2 * m := Int.sub_mul _ _ _
      rw [z3]
      omega
    obtain ⟨w, hw⟩ := ht2.back hj1
    refine ⟨-w, ?_⟩
    rw [hu, ho', hcy]
    have h1 : j * (g * o') = g * (j * o') := by grind
    have h2 : g * cy * -w = -(g * (cy * w)) := by grind
    rw [h1, h2, ← hw]
    have h3 : g * (j * o' - (A + m * a)) = g * (j * o') - g * (A + m * a) := Int.mul_sub _ _ _
    rw [h3]
    omega

/-! ### the least place in a range -/
def RangeLeast (Q : Int → Prop) (lo hi : Int) : Option Int → Prop
  | none => ∀ m, lo ≤ m → m ≤ hi → ¬ Q m
  | some m => lo ≤ m ∧ m ≤ hi ∧ Q m ∧ ∀ m', lo ≤ m' → m' < m → ¬ Q m'
/-- what least_true and the test give -/
theorem rangeLeast_of {Q : Int → Prop} {lo hi : Int} {T : Int → Bool} (hT : ∀ c : Nat, (c : Int) ≤ hi - lo + 1 → (T c = true ↔ ∃ i : Nat, i < c ∧ Q (lo + i))) :
    (hi - lo + 1 < 1 → RangeLeast Q lo hi none) ∧ (1 ≤ hi - lo + 1 → T (hi - lo + 1) = false → RangeLeast Q lo hi none) ∧
    (∀ r, 1 ≤ r → r ≤ hi - lo + 1 → T r = true → (∀ r', 1 ≤ r' → r' < r → T r' = false) → RangeLeast Q lo hi (some (lo + r - 1))) := by
  refine ⟨fun h m h1 h2 => by omega, fun h hf m h1 h2 q => ?_, fun r h1 h2 ht hl => ?_⟩
  · have e : ((hi - lo + 1).toNat : Int) = hi - lo + 1 := by omega
    have := (hT (hi - lo + 1).toNat (by omega)).mpr ⟨(m - lo).toNat, by omega, by rw [show lo + ((m - lo).toNat : Int) = m by omega]; exact q⟩
    rw [e, hf] at this
    cases this
  · have e : (r.toNat : Int) = r := by omega
    obtain ⟨i, hi', q⟩ := (hT r.toNat (by omega)).mp (by rw [e]; exact ht)
    have no : ∀ m', lo ≤ m' → m' < lo + r - 1 → ¬ Q m' := fun m' g1 g2 q' => by
      have e2 : ((m' - lo + 1).toNat : Int) = m' - lo + 1 := by omega
      have := (hT (m' - lo + 1).toNat (by omega)).mpr ⟨(m' - lo).toNat, by omega, by rw [show lo + ((m' - lo).toNat : Int) = m' by omega]; exact q'⟩
      rw [e2, hl _ (by omega) (by omega)] at this
      cases this
    refine ⟨by omega, by omega, ?_, no⟩
    by_cases ei : lo + (i : Int) = lo + r - 1
    · rw [← ei]; exact q
    · exact absurd q (no _ (by omega) (by omega))

/-- the one way's number k, the other one's number before: on the ring -/
def PR (n len cyc d1 x1 s1 d2 x2 s2 limit : Int) (e : Bool) (k : Int) : Prop :=
  k < len ∧ ∃ j, 0 ≤ j ∧ j < cyc ∧ n ∣ (x1 + k * s1) - (x2 + j * s2) ∧ j < limit ∧ d2 + j + (if e then 0 else 1) ≤ d1 + k
def ceilI (a b : Int) : Int := -(-a / b)
theorem ceil_le {a b m : Int} (hb : 0 < b) : ceilI a b ≤ m ↔ a ≤ m * b := by
  unfold ceilI
  have : -(-a / b) ≤ m ↔ -m ≤ -a / b := by omega
  rw [this, Int.le_ediv_iff_mul_le hb]
  have e : -m * b = -(m * b) := by grind
  rw [e]
  omega
def maxI (i j : Int) : Int := if j > i then j else i
def minI (i j : Int) : Int := if j < i then j else i
def QR (cyc slope off : Int) (b : Int) (m : Int) : Prop := (off + slope * m) % cyc < b
/-- RingCrossing.first_block -/
theorem ring_first {n len cyc d1 x1 s1 d2 x2 s2 limit : Int} {e em : Bool} {step start slope off last late low steady : Int} {r1 r2 res : Option Int}
    (C : RcOk n x1 s1 x2 s2 em cyc step start slope off) (hl : 0 ≤ limit) (hlc : limit ≤ cyc) (elast : last = (len - 1 - start) / step) (elate : late = d1 - d2 + start - (if e then 0 else 1))
    (elow : low = maxI 0 (ceilI (-late) step)) (est : steady = maxI low (ceilI (limit - 1 - late) step))
    (h0 : em = true ∨ limit = 0 ∨ last < 0 → res = none)
    (h1 : ¬ (em = true ∨ limit = 0 ∨ last < 0) → RangeLeast (fun m => (off + slope * m) % cyc < late + 1 + step * m) low (minI (steady - 1) last) r1)
    (h2 : ¬ (em = true ∨ limit = 0 ∨ last < 0) → r1 = none → RangeLeast (fun m => (off + slope * m) % cyc < limit) steady last r2)
    (h3 : ¬ (em = true ∨ limit = 0 ∨ last < 0) → res = (match r1 with | some m => some (start + m * step) | none => (match r2 with | some m => some (start + m * step) | none => none))) :
    IsLeast (PR n len cyc d1 x1 s1 d2 x2 s2 limit e) res := by
  obtain ⟨c0, hp, st0, st1, key⟩ := C
  have lenm : ∀ m : Int, start + m * step < len ↔ m ≤ last := fun m => by
    rw [elast, Int.le_ediv_iff_mul_le hp]
    omega
  have nn : ∀ m : Int, 0 ≤ start + m * step ↔ 0 ≤ m := fun m => by
    constructor
    · intro h
      by_cases q : 0 ≤ m
      · exact q
      · have : m * step ≤ -1 * step := Int.mul_le_mul_of_nonneg_right (by omega) (by omega)
        omega
    · intro h
      have : 0 ≤ m * step := Int.mul_nonneg h (by omega)
      omega
  have form : ∀ k, PR n len cyc d1 x1 s1 d2 x2 s2 limit e k → em = false ∧ ∃ m, k = start + m * step := fun k ⟨_, j, j0, j1, hj, _⟩ => by
    obtain ⟨hem, m, hm, _⟩ := (key k j j0 j1).mp hj
    exact ⟨hem, m, hm⟩
  have at_ : ∀ m, em = false → (PR n len cyc d1 x1 s1 d2 x2 s2 limit e (start + m * step) ↔ (m ≤ last ∧ (off + slope * m) % cyc < limit ∧ (off + slope * m) % cyc ≤ late + m * step)) := fun m hem => by
    have r0 := Int.emod_nonneg (off + slope * m) (show cyc ≠ 0 by omega)
    have r1 := Int.emod_lt_of_pos (off + slope * m) c0
    constructor
    · rintro ⟨hlen, j, j0, j1, hj, hjl, hd⟩
      obtain ⟨_, m', hm', hj'⟩ := (key _ j j0 j1).mp hj
      have : m' = m := Int.eq_of_mul_eq_mul_right (show step ≠ 0 by omega) (by omega)
      subst this
      rw [← hj']
      exact ⟨(lenm _).mp hlen, hjl, by omega⟩
    · rintro ⟨h1, h2, h3⟩
      exact ⟨(lenm _).mpr h1, _, r0, r1, (key _ _ r0 r1).mpr ⟨hem, m, rfl, rfl⟩, h2, by omega⟩
  by_cases hz : em = true ∨ limit = 0 ∨ last < 0
  · rw [h0 hz]
    intro k hk hp'
    obtain ⟨hem, m, rfl⟩ := form k hp'
    obtain ⟨q1, q2, q3⟩ := (at_ m hem).mp hp'
    have r0 := Int.emod_nonneg (off + slope * m) (show cyc ≠ 0 by omega)
    have m0 := (nn m).mp hk
    rcases hz with z | z | z
    · rw [hem] at z; cases z
    · omega
    · omega
  · have hem : em = false := by
      cases em with
      | false => rfl
      | true => exact absurd (.inl rfl) hz
    have hlim : 0 < limit := by
      have : limit ≠ 0 := fun z => hz (.inr (.inl z))
      omega
    have H1 := h1 hz
    have H2 := h2 hz
    have H3 := h3 hz
    have lowm : ∀ m, low ≤ m ↔ 0 ≤ m ∧ 0 ≤ late + m * step := fun m => by
      have e1 := ceil_le (a := -late) (m := m) hp
      rw [elow]
      unfold maxI
      split <;> omega
    have stm : ∀ m, steady ≤ m ↔ low ≤ m ∧ limit - 1 ≤ late + m * step := fun m => by
      have e1 := ceil_le (a := limit - 1 - late) (m := m) hp
      rw [est]
      unfold maxI
      split <;> omega
    have comm : ∀ m : Int, step * m = m * step := fun m => Int.mul_comm _ _
    -- a place: before steady, from steady on
    have inA : ∀ m, 0 ≤ start + m * step → PR n len cyc d1 x1 s1 d2 x2 s2 limit e (start + m * step) → (low ≤ m ∧ m ≤ minI (steady - 1) last ∧ (off + slope * m) % cyc < late + 1 + step * m) ∨ (steady ≤ m ∧ m ≤ last ∧ (off + slope * m) % cyc < limit) := fun m hm hp' => by
      obtain ⟨q1, q2, q3⟩ := (at_ m hem).mp hp'
      have r0 := Int.emod_nonneg (off + slope * m) (show cyc ≠ 0 by omega)
      have m0 := (nn m).mp hm
      have hlow : low ≤ m := (lowm m).mpr ⟨m0, by omega⟩
      by_cases hs : steady ≤ m
      · exact .inr ⟨hs, q1, q2⟩
      · refine .inl ⟨hlow, ?_, ?_⟩
        · unfold minI; split <;> omega
        · rw [comm]; omega
    have ofA : ∀ m, low ≤ m → m ≤ minI (steady - 1) last → (off + slope * m) % cyc < late + 1 + step * m → 0 ≤ start + m * step ∧ PR n len cyc d1 x1 s1 d2 x2 s2 limit e (start + m * step) := fun m g1 g2 g3 => by
      have hlast : m ≤ last ∧ m < steady := by
        unfold minI at g2
        split at g2 <;> omega
      have hns : ¬ steady ≤ m := by omega
      rw [stm] at hns
      have := (lowm m).mp g1
      rw [comm] at g3
      refine ⟨(nn m).mpr this.1, (at_ m hem).mpr ⟨hlast.1, by omega, by omega⟩⟩
    have ofB : ∀ m, steady ≤ m → m ≤ last → (off + slope * m) % cyc < limit → 0 ≤ start + m * step ∧ PR n len cyc d1 x1 s1 d2 x2 s2 limit e (start + m * step) := fun m g1 g2 g3 => by
      have g4 := (stm m).mp g1
      have := (lowm m).mp g4.1
      refine ⟨(nn m).mpr this.1, (at_ m hem).mpr ⟨g2, g3, by omega⟩⟩
    have lt_of : ∀ m m' : Int, start + m' * step < start + m * step → m' < m := fun m m' h => by
      by_cases q : m' < m
      · exact q
      · have : m * step ≤ m' * step := Int.mul_le_mul_of_nonneg_right (by omega) (by omega)
        omega
    cases r1 with
    | some m =>
      rw [H3]
      obtain ⟨g1, g2, g3, g4⟩ := H1
      obtain ⟨p0, p1⟩ := ofA m g1 g2 g3
      refine ⟨p0, p1, fun k' hk hlt hp' => ?_⟩
      obtain ⟨_, m', rfl⟩ := form k' hp'
      have hmm := lt_of m m' hlt
      rcases inA m' hk hp' with ⟨a1, a2, a3⟩ | ⟨a1, a2, a3⟩
      · exact g4 m' a1 hmm a3
      · unfold minI at g2
        split at g2 <;> omega
    | none =>
      have H2' := H2 rfl
      cases r2 with
      | some m =>
        rw [H3]
        obtain ⟨g1, g2, g3, g4⟩ := H2'
        obtain ⟨p0, p1⟩ := ofB m g1 g2 g3
        refine ⟨p0, p1, fun k' hk hlt hp' => ?_⟩
        obtain ⟨_, m', rfl⟩ := form k' hp'
        have hmm := lt_of m m' hlt
        rcases inA m' hk hp' with ⟨a1, a2, a3⟩ | ⟨a1, a2, a3⟩
        · exact H1 m' a1 a2 a3
        · exact g4 m' a1 hmm a3
      | none =>
        rw [H3]
        intro k hk hp'
        obtain ⟨_, m', rfl⟩ := form k hp'
        rcases inA m' hk hp' with ⟨a1, a2, a3⟩ | ⟨a1, a2, a3⟩
        · exact H1 m' a1 a2 a3
        · exact H2' m' a1 a2 a3

/-- first_rising's test -/
theorem rising_met {cyc step slope off late low hi limit : Int} (hc : 0 < cyc) (hs : 0 < step) (hlc : limit ≤ cyc) (h0 : ∀ m, low ≤ m → 0 ≤ late + m * step) (h1 : ∀ m, low ≤ m → m ≤ hi → late + m * step < limit - 1) (c : Nat) (hcn : (c : Int) ≤ hi - low + 1) :
    (decide (FS cyc slope (off + slope * low) c - FS cyc (slope - step) (off + (slope - step) * low - late - 1) c > 0) = true) ↔ ∃ i : Nat, i < c ∧ (off + slope * (low + i)) % cyc < late + 1 + step * (low + i) := by
  rw [decide_eq_true_eq]
  refine (FS_diff (P := fun i => (off + slope * (low + i)) % cyc < late + 1 + step * (low + i)) c fun i hi' => ?_).2
  have a0 := h0 (low + i) (by omega)
  have a1 := h1 (low + i) (by omega) (by omega)
  have hcm : step * (low + (i : Int)) = (low + (i : Int)) * step := Int.mul_comm _ _
  have e1 : slope * (i : Int) + (off + slope * low) = off + slope * (low + i) := by grind
  have e2 : (slope - step) * (i : Int) + (off + (slope - step) * low - late - 1) = (off + slope * (low + i)) - (late + 1 + step * (low + i)) := by grind
  rw [e1, e2]
  exact window hc (by omega) (by omega)
/-- first_steady's test -/
theorem steady_met {cyc slope off low limit : Int} (hc : 0 < cyc) (hl : 0 ≤ limit) (hlc : limit ≤ cyc) (c : Nat) :
    (decide (FS cyc slope (off + slope * low) c - FS cyc slope (off + slope * low - limit) c > 0) = true) ↔ ∃ i : Nat, i < c ∧ (off + slope * (low + i)) % cyc < limit := by
  rw [decide_eq_true_eq]
  refine (FS_diff (P := fun i => (off + slope * (low + i)) % cyc < limit) c fun i hi' => ?_).2
  have e1 : slope * (i : Int) + (off + slope * low) = off + slope * (low + i) := by grind
  have e2 : slope * (i : Int) + (off + slope * low - limit) = (off + slope * (low + i)) - limit := by grind
  rw [e1, e2]
  exact window hc (by omega) (by omega)

end PM
end
section
set_option maxHeartbeats 4000000
/-! The stops of the fence and of the ring, one after the other. Plain Lean. -/
namespace PM

noncomputable def least (P : Int → Prop) : Option Int := Classical.choose (IsLeast.ex P)
theorem least_ok (P : Int → Prop) : IsLeast P (least P) := Classical.choose_spec (IsLeast.ex P)
theorem least_eq {P : Int → Prop} {r : Option Int} (h : IsLeast P r) : r = least P := h.uniq (least_ok P)

/-- a stop: day, place, count, place of the blocker -/
abbrev Stop := Int × Nat × Int × Nat
def lexLt (a b : Stop) : Prop := a.1 < b.1 ∨ (a.1 = b.1 ∧ (a.2.1 < b.2.1 ∨ (a.2.1 = b.2.1 ∧ (a.2.2.1 < b.2.2.1 ∨ (a.2.2.1 = b.2.2.1 ∧ a.2.2.2 < b.2.2.2)))))
theorem lexLt_total {a b : Stop} (h1 : ¬ lexLt a b) (h2 : ¬ lexLt b a) : a = b := by
  obtain ⟨a1, a2, a3, a4⟩ := a
  obtain ⟨b1, b2, b3, b4⟩ := b
  unfold lexLt at h1 h2
  dsimp only at h1 h2
  have e1 : a1 = b1 := by omega
  have e2 : a2 = b2 := by omega
  have e3 : a3 = b3 := by omega
  have e4 : a4 = b4 := by omega
  rw [e1, e2, e3, e4]

abbrev Lims := Nat → Option Int
def setL (lim : Lims) (p : Nat) (c : Int) : Lims := fun i => if i = p then some c else lim i
/-- the entry of the place p about the place q -/
def Bl (n : Nat) (fb : Nat → Nat → Option Int → Option Int) (own : Nat → Option Int) (lim : Lims) (p q : Nat) : Option Int :=
  if q = p then own p else if q < n then fb p q (lim q) else none
section
variable (n : Nat) (day : Nat → Int) (fb : Nat → Nat → Option Int → Option Int) (own : Nat → Option Int)
def IsNext (lim : Lims) : Option Stop → Prop
  | none => ∀ p, p < n → lim p = none → ∀ q, Bl n fb own lim p q = none
  | some x => x.2.1 < n ∧ x.2.2.2 < n ∧ lim x.2.1 = none ∧ Bl n fb own lim x.2.1 x.2.2.2 = some x.2.2.1 ∧ x.1 = day x.2.1 + x.2.2.1 ∧
      ∀ p q c, p < n → q < n → lim p = none → Bl n fb own lim p q = some c → ¬ lexLt (day p + c, p, c, q) x
inductive Run : Lims → List Stop → Prop where
  | done {lim : Lims} : IsNext n day fb own lim none → Run lim []
  | step {lim : Lims} {x : Stop} {rest : List Stop} : IsNext n day fb own lim (some x) → Run (setL lim x.2.1 x.2.2.1) rest → Run lim (x :: rest)
end
section
variable {n : Nat} {day : Nat → Int} {fb fb' : Nat → Nat → Option Int → Option Int} {own own' : Nat → Option Int}
theorem Bl_lt {lim : Lims} {p q : Nat} {c : Int} (hp : p < n) (h : Bl n fb own lim p q = some c) : q < n := by
  unfold Bl at h
  by_cases e : q = p
  · rw [e]; exact hp
  · rw [if_neg e] at h
    by_cases l : q < n
    · exact l
    · rw [if_neg l] at h; cases h
theorem IsNext.same {lim : Lims} {r r' : Option Stop} (h : IsNext n day fb own lim r) (h' : IsNext n day fb own lim r') : r = r' := by
  cases r with
  | none =>
    cases r' with
    | none => rfl
    | some x =>
      obtain ⟨a, _, b, c, _⟩ := h'
      rw [h _ a b] at c
      cases c
  | some x =>
    cases r' with
    | none =>
      obtain ⟨a, _, b, c, _⟩ := h
      rw [h' _ a b] at c
      cases c
    | some y =>
      obtain ⟨a1, a2, a3, a4, a5, a6⟩ := h
      obtain ⟨b1, b2, b3, b4, b5, b6⟩ := h'
      have q1 := a6 _ _ _ b1 b2 b3 b4
      have q2 := b6 _ _ _ a1 a2 a3 a4
      rw [← b5] at q1
      rw [← a5] at q2
      exact congrArg some (lexLt_total q2 q1)
/-- places that stop: not settled before, all different -/
theorem Run.free : ∀ {lim : Lims} {l : List Stop}, Run n day fb own lim l → ∀ x ∈ l, lim x.2.1 = none ∧ x.2.1 < n ∧ x.2.2.2 < n ∧ x.1 = day x.2.1 + x.2.2.1
  | _, _, .done _, x, hx => by cases hx
  | lim, _, .step (x := y) h r, x, hx => by
    rcases List.mem_cons.mp hx with rfl | hx
    · exact ⟨h.2.2.1, h.1, h.2.1, h.2.2.2.2.1⟩
    · obtain ⟨a, b⟩ := r.free x hx
      unfold setL at a
      split at a
      · cases a
      · exact ⟨a, b⟩
theorem Run.nodup : ∀ {lim : Lims} {l : List Stop}, Run n day fb own lim l → (l.map (·.2.1)).Nodup
  | _, _, .done _ => List.nodup_nil
  | lim, _, .step (x := y) h r => by
    rw [List.map_cons]
    refine List.nodup_cons.mpr ⟨fun m => ?_, r.nodup⟩
    obtain ⟨z, hz, ez⟩ := List.mem_map.mp m
    have := (r.free z hz).1
    have ez : z.2.1 = y.2.1 := ez
    unfold setL at this
    rw [if_pos ez] at this
    cases this
/-- where every place has an entry of its own, all places stop -/
theorem Run.all (ho : ∀ p, p < n → own p ≠ none) : ∀ {lim : Lims} {l : List Stop}, Run n day fb own lim l → ∀ p, p < n → lim p = none → ∃ x ∈ l, x.2.1 = p
  | lim, _, .done h, p, hp, hl => by
    have := h p hp hl p
    unfold Bl at this
    rw [if_pos rfl] at this
    exact absurd this (ho p hp)
  | lim, _, .step (x := y) h r, p, hp, hl => by
    by_cases e : p = y.2.1
    · exact ⟨y, List.mem_cons_self, e.symm⟩
    · obtain ⟨x, hx, ex⟩ := r.all ho p hp (by unfold setL; rw [if_neg e]; exact hl)
      exact ⟨x, List.mem_cons_of_mem _ hx, ex⟩

/-- what ring (fb', own') and fence (fb, nothing of its own) have to do with one another, T: the horizon; ok: the limits that occur -/
structure Like (n : Nat) (day : Nat → Int) (fb fb' : Nat → Nat → Option Int → Option Int) (own' : Nat → Option Int) (T : Int) : Prop where
  h1 : ∀ p q c k, p < n → q < n → q ≠ p → fb p q c = some k → day p + k ≤ T
  h2 : ∀ p q c k, p < n → q < n → q ≠ p → day p + k ≤ T → (fb' p q c = some k ↔ fb p q c = some k)
  h3 : ∀ p k, p < n → own' p = some k → T < day p + k
  h4 : ∀ p q v k, p < n → q < n → q ≠ p → fb' p q (some v) = some k → ∃ k', k' ≤ k ∧ fb' p q none = some k'
variable {T : Int}
theorem rest_late (L : Like n day fb fb' own' T) {lim0 : Lims} (h0 : IsNext n day fb (fun _ => none) lim0 none) : ∀ {lim : Lims} {l : List Stop}, Run n day fb' own' lim l →
    (∀ i, lim i = lim0 i ∨ lim0 i = none) → ∀ x ∈ l, T < x.1
  | _, _, .done _, _, x, hx => by cases hx
  | lim, _, .step (x := y) h r, hlim, x, hx => by
    obtain ⟨a1, a2, a3, a4, a5, a6⟩ := h
    rcases List.mem_cons.mp hx with rfl | hx
    · rw [a5]
      by_cases hT : T < day x.2.1 + x.2.2.1
      · exact hT
      · exfalso
        have u0 : lim0 x.2.1 = none := by
          rcases hlim x.2.1 with e | e
          · rw [← e]; exact a3
          · exact e
        unfold Bl at a4
        by_cases e : x.2.2.2 = x.2.1
        · rw [if_pos e] at a4
          exact hT (L.h3 _ _ a1 a4)
        · rw [if_neg e, if_pos a2] at a4
          have no : ∀ k, fb x.2.1 x.2.2.2 (lim0 x.2.2.2) ≠ some k := fun k z => by
            have := h0 x.2.1 a1 u0 x.2.2.2
            unfold Bl at this
            rw [if_neg e, if_pos a2, z] at this
            cases this
          rcases hlim x.2.2.2 with z | z
          · rw [z] at a4
            exact no _ ((L.h2 _ _ _ _ a1 a2 e (by omega)).mp a4)
          · rw [z] at no
            cases ev : lim x.2.2.2 with
            | none =>
              rw [ev] at a4
              exact no _ ((L.h2 _ _ _ _ a1 a2 e (by omega)).mp a4)
            | some v =>
              rw [ev] at a4
              obtain ⟨k', hk, ek⟩ := L.h4 _ _ _ _ a1 a2 e a4
              exact no _ ((L.h2 _ _ _ _ a1 a2 e (by omega)).mp ek)
    · refine rest_late L h0 r (fun i => ?_) x hx
      unfold setL
      by_cases e : i = y.2.1
      · right
        rw [e]
        rcases hlim y.2.1 with z | z
        · rw [← z]; exact a3
        · exact z
      · rw [if_neg e]
        exact hlim i
theorem lockstep (L : Like n day fb fb' own' T) : ∀ {lim : Lims} {l l' : List Stop}, Run n day fb (fun _ => none) lim l → Run n day fb' own' lim l' →
    ∃ rest, l' = l ++ rest ∧ (∀ x ∈ l, x.1 ≤ T) ∧ ∀ x ∈ rest, T < x.1
  | lim, _, l', .done h, r' => ⟨l', rfl, (fun x hx => by cases hx), rest_late L h r' fun _ => .inl rfl⟩
  | lim, _, l', .step (x := y) (rest := l) h r, r' => by
    obtain ⟨a1, a2, a3, a4, a5, a6⟩ := id h
    have ne : y.2.2.2 ≠ y.2.1 := fun e => by
      unfold Bl at a4
      rw [if_pos e] at a4
      cases a4
    have e4 : fb y.2.1 y.2.2.2 (lim y.2.2.2) = some y.2.2.1 := by
      unfold Bl at a4
      rw [if_neg ne, if_pos a2] at a4
      exact a4
    have hT : y.1 ≤ T := by
      rw [a5]
      exact L.h1 _ _ _ _ a1 a2 ne e4
    have h' : IsNext n day fb' own' lim (some y) := by
      refine ⟨a1, a2, a3, ?_, a5, fun p q c hp hq hl hb => ?_⟩
      · unfold Bl
        rw [if_neg ne, if_pos a2]
        exact (L.h2 _ _ _ _ a1 a2 ne (by rw [← a5]; exact hT)).mpr e4
      · by_cases hc : day p + c ≤ T
        · have nq : q ≠ p := fun e => by
            unfold Bl at hb
            rw [if_pos e] at hb
            have := L.h3 _ _ hp hb
            omega
          refine a6 p q c hp hq hl ?_
          unfold Bl at hb ⊢
          rw [if_neg nq, if_pos hq] at hb ⊢
          exact (L.h2 _ _ _ _ hp hq nq hc).mp hb
        · unfold lexLt
          dsimp only
          omega
    cases r' with
    | done z => exact absurd (h'.same z) (by simp)
    | @step _ x' rest' z r2 =>
      have e := Option.some.inj (z.same h')
      subst e
      obtain ⟨rest, e1, e2, e3⟩ := lockstep L r r2
      refine ⟨rest, by rw [e1]; rfl, fun x hx => ?_, e3⟩
      rcases List.mem_cons.mp hx with rfl | hx
      · exact hT
      · exact e2 x hx
end

/-! ### the law's fences -/
/-- the blocks on the fence, on the ring -/
noncomputable def fbF (day post str : Nat → Int) (p q : Nat) (c : Option Int) : Option Int := least (PF (day p) (post p) (str p) (day q) (post q) (str q) c (decide (q < p)))
def cyc (N : Int) (str : Nat → Int) (p : Nat) : Int := N / ((Int.gcd (str p % N) N : Nat) : Int)
noncomputable def fbR (N : Int) (day post str : Nat → Int) (p q : Nat) (c : Option Int) : Option Int :=
  least (PR N (cyc N str p) (cyc N str q) (day p) (post p) (str p) (day q) (post q) (str q) (c.getD (cyc N str q)) (decide (q < p)))
structure Fenced (n : Nat) (N f : Int) (day post str : Nat → Int) : Prop where
  f1 : 1 ≤ f
  hN : 2000 * f ≤ N
  pl : ∃ (D S : Int) (d x s : Nat → Int), ∀ i, i < n → day i = D + d i ∧ post i = S + f * x i ∧ str i = f * s i ∧ 0 ≤ d i ∧ d i ≤ 6 ∧ -8 ≤ x i ∧ x i ≤ 8 ∧ -6 ≤ s i ∧ s i ≤ 6 ∧ s i ≠ 0

theorem scale_eq {f : Int} (hf : 1 ≤ f) {S x1 s1 x2 s2 k j : Int} : S + f * x1 + k * (f * s1) = S + f * x2 + j * (f * s2) ↔ x1 + k * s1 = x2 + j * s2 := by
  have e1 : S + f * x1 + k * (f * s1) = S + f * (x1 + k * s1) := by grind
  have e2 : S + f * x2 + j * (f * s2) = S + f * (x2 + j * s2) := by grind
  rw [e1, e2]
  constructor
  · intro h
    exact Int.eq_of_mul_eq_mul_left (show f ≠ 0 by omega) (by omega)
  · intro h
    rw [h]
/-- no block lies late -/
theorem soon {d1 x1 s1 d2 x2 s2 k j : Int} (hd1 : 0 ≤ d1) (hd1' : d1 ≤ 6) (hx1 : -8 ≤ x1) (hx1' : x1 ≤ 8) (hs1 : -6 ≤ s1) (hs1' : s1 ≤ 6) (n1 : s1 ≠ 0)
    (hd2 : 0 ≤ d2) (hd2' : d2 ≤ 6) (hx2 : -8 ≤ x2) (hx2' : x2 ≤ 8) (hs2 : -6 ≤ s2) (hs2' : s2 ≤ 6) (n2 : s2 ≠ 0) {w : Int} (hw : 0 ≤ w) (hw1 : w ≤ 1)
    (hk : 80 ≤ k) (j0 : 0 ≤ j) (e : x1 + k * s1 = x2 + j * s2) (hd : d2 + j + w ≤ d1 + k) :
    ∃ k' j', 0 ≤ k' ∧ k' < k ∧ 0 ≤ j' ∧ j' ≤ j ∧ x1 + k' * s1 = x2 + j' * s2 ∧ d2 + j' + w ≤ d1 + k' := by
  have c1 : s1 = -6 ∨ s1 = -5 ∨ s1 = -4 ∨ s1 = -3 ∨ s1 = -2 ∨ s1 = -1 ∨ s1 = 1 ∨ s1 = 2 ∨ s1 = 3 ∨ s1 = 4 ∨ s1 = 5 ∨ s1 = 6 := by omega
  have c2 : s2 = -6 ∨ s2 = -5 ∨ s2 = -4 ∨ s2 = -3 ∨ s2 = -2 ∨ s2 = -1 ∨ s2 = 1 ∨ s2 = 2 ∨ s2 = 3 ∨ s2 = 4 ∨ s2 = 5 ∨ s2 = 6 := by omega
  obtain ⟨a, ha1, ha2⟩ : ∃ a : Int, (0 < s2 → a = s2) ∧ (s2 < 0 → a = -s2) := by
    by_cases h : 0 < s2
    · exact ⟨s2, fun _ => rfl, fun z => by omega⟩
    · exact ⟨-s2, fun z => by omega, fun _ => rfl⟩
  obtain ⟨b, hb1, hb2⟩ : ∃ b : Int, (0 < s2 → b = s1) ∧ (s2 < 0 → b = -s1) := by
    by_cases h : 0 < s2
    · exact ⟨s1, fun _ => rfl, fun z => by omega⟩
    · exact ⟨-s1, fun z => by omega, fun _ => rfl⟩
  clear hs1 hs1' hs2 hs2' n1 n2
  refine ⟨k - a, j - b, ?_⟩
  rcases c1 with rfl | rfl | rfl | rfl | rfl | rfl | rfl | rfl | rfl | rfl | rfl | rfl <;>
    rcases c2 with rfl | rfl | rfl | rfl | rfl | rfl | rfl | rfl | rfl | rfl | rfl | rfl <;>
    · first
      | (have ea := ha1 (by decide); have eb := hb1 (by decide); subst ea; subst eb; omega)
      | (have ea := ha2 (by decide); have eb := hb2 (by decide); subst ea; subst eb; omega)

/-- a way round is long -/
theorem long {N f s σ : Int} (h1 : 1 ≤ f) (hN : 2000 * f ≤ N) (es : s = f * σ) (s1 : -6 ≤ σ) (s2 : σ ≤ 6) (s0 : σ ≠ 0) : 334 ≤ N / ((Int.gcd (s % N) N : Nat) : Int) := by
  have N0 : 0 < N := by omega
  have g0 : 0 < ((Int.gcd (s % N) N : Nat) : Int) := gcd_pos_r (by omega)
  obtain ⟨u, hu⟩ : ((Int.gcd (s % N) N : Nat) : Int) ∣ s % N := Int.gcd_dvd_left _ _
  obtain ⟨v, hv⟩ : ((Int.gcd (s % N) N : Nat) : Int) ∣ N := Int.gcd_dvd_right _ _
  have hmod := Int.emod_add_mul_ediv s N
  generalize s % N = p at *
  generalize ((Int.gcd p N : Nat) : Int) = g at *
  have qv : N / g = v := by
    have : N / g = (g * v) / g := by rw [← hv]
    rw [this, Int.mul_ediv_cancel_left _ (by omega)]
  rw [qv]
  have v0 : 0 < v := by rw [hv] at N0; exact Int.pos_of_mul_pos_right N0 g0
  -- N divides v * s
  have hd : ∃ w, v * (f * σ) = N * w := by
    refine ⟨u + v * (s / N), ?_⟩
    rw [← es, ← hmod]
    have e1 : v * p = N * u := by
      rw [hu]
      have : N * u = (g * v) * u := by rw [← hv]
      rw [this]
      grind
    have e2 : v * (p + N * (s / N)) = v * p + N * (v * (s / N)) := by grind
    have e3 : (p + N * (s / N)) / N = s / N := by rw [hmod]
    rw [e2, e1, e3]
    grind
  obtain ⟨w, hw⟩ := hd
  by_cases hlt : 334 ≤ v
  · exact hlt
  · exfalso
    have vs : v * (f * σ) = f * (v * σ) := by grind
    rw [vs] at hw
    have b1 : -1998 ≤ v * σ := by
      have c : σ = -6 ∨ σ = -5 ∨ σ = -4 ∨ σ = -3 ∨ σ = -2 ∨ σ = -1 ∨ σ = 1 ∨ σ = 2 ∨ σ = 3 ∨ σ = 4 ∨ σ = 5 ∨ σ = 6 := by omega
      rcases c with rfl | rfl | rfl | rfl | rfl | rfl | rfl | rfl | rfl | rfl | rfl | rfl <;> omega
    have b2 : v * σ ≤ 1998 := by
      have c : σ = -6 ∨ σ = -5 ∨ σ = -4 ∨ σ = -3 ∨ σ = -2 ∨ σ = -1 ∨ σ = 1 ∨ σ = 2 ∨ σ = 3 ∨ σ = 4 ∨ σ = 5 ∨ σ = 6 := by omega
      rcases c with rfl | rfl | rfl | rfl | rfl | rfl | rfl | rfl | rfl | rfl | rfl | rfl <;> omega
    have b3 : v * σ ≠ 0 := Int.mul_ne_zero (by omega) s0
    generalize v * σ = y at *
    have c1 : f * y ≤ f * 1998 := Int.mul_le_mul_of_nonneg_left b2 (by omega)
    have c2 : f * -1998 ≤ f * y := Int.mul_le_mul_of_nonneg_left b1 (by omega)
    have c3 : f * y ≠ 0 := Int.mul_ne_zero (by omega) b3
    by_cases w0 : 0 < w
    · have : N * 1 ≤ N * w := Int.mul_le_mul_of_nonneg_left (by omega) (by omega)
      omega
    · by_cases w1 : w < 0
      · have : N * w ≤ N * -1 := Int.mul_le_mul_of_nonneg_left (by omega) (by omega)
        omega
      · have : w = 0 := by omega
        rw [this] at hw
        omega
/-- congruent and near is equal -/
theorem near {N f a : Int} (h1 : 1 ≤ f) (hN : 2000 * f ≤ N) (ha : -1300 ≤ a) (hb : a ≤ 1300) (h : N ∣ f * a) : a = 0 := by
  obtain ⟨w, hw⟩ := h
  by_cases e : a = 0
  · exact e
  · exfalso
    have c1 : f * a ≤ f * 1300 := Int.mul_le_mul_of_nonneg_left hb (by omega)
    have c2 : f * -1300 ≤ f * a := Int.mul_le_mul_of_nonneg_left ha (by omega)
    have c3 : f * a ≠ 0 := Int.mul_ne_zero (by omega) e
    by_cases w0 : 0 < w
    · have : N * 1 ≤ N * w := Int.mul_le_mul_of_nonneg_left (by omega) (by omega)
      omega
    · by_cases w1 : w < 0
      · have : N * w ≤ N * -1 := Int.mul_le_mul_of_nonneg_left (by omega) (by omega)
        omega
      · have : w = 0 := by omega
        rw [this] at hw
        omega
theorem mul6 {k s : Int} (k0 : 0 ≤ k) (k1 : k ≤ 100) (h1 : -6 ≤ s) (h2 : s ≤ 6) : -600 ≤ k * s ∧ k * s ≤ 600 := by
  have a1 : k * s ≤ k * 6 := Int.mul_le_mul_of_nonneg_left h2 k0
  have a2 : k * -6 ≤ k * s := Int.mul_le_mul_of_nonneg_left h1 k0
  omega
theorem like_of {n : Nat} {N f : Int} {day post str : Nat → Int} (F : Fenced n N f day post str) : ∃ T, Like n day (fbF day post str) (fbR N day post str) (fun p => some (cyc N str p)) T := by
  obtain ⟨hf, hN, D, S, d, x, s, hp⟩ := F
  -- the fence's block, unscaled
  have pf : ∀ p q c e k, p < n → q < n → (PF (day p) (post p) (str p) (day q) (post q) (str q) c e k ↔ ∃ j, 0 ≤ j ∧ x p + k * s p = x q + j * s q ∧ (∀ v, c = some v → j < v) ∧ d q + j + (if e then 0 else 1) ≤ d p + k) := fun p q c e k h1 h2 => by
    obtain ⟨a1, a2, a3, _⟩ := hp p h1
    obtain ⟨b1, b2, b3, _⟩ := hp q h2
    unfold PF
    rw [a1, a2, a3, b1, b2, b3]
    constructor
    · rintro ⟨j, j0, hj, hc, hd⟩
      exact ⟨j, j0, (scale_eq hf).mp hj, hc, by omega⟩
    · rintro ⟨j, j0, hj, hc, hd⟩
      exact ⟨j, j0, (scale_eq hf).mpr hj, hc, by omega⟩
  have w01 : ∀ e : Bool, 0 ≤ (if e then (0 : Int) else 1) ∧ (if e then (0 : Int) else 1) ≤ 1 := fun e => by cases e <;> decide
  have early : ∀ p q c e k, p < n → q < n → PF (day p) (post p) (str p) (day q) (post q) (str q) c e k → (∀ k', 0 ≤ k' → k' < k → ¬ PF (day p) (post p) (str p) (day q) (post q) (str q) c e k') → k < 80 := fun p q c e k h1 h2 hP hl => by
    by_cases hk : k < 80
    · exact hk
    · exfalso
      obtain ⟨_, _, _, a4, a5, a6, a7, a8, a9, a10⟩ := hp p h1
      obtain ⟨_, _, _, b4, b5, b6, b7, b8, b9, b10⟩ := hp q h2
      obtain ⟨j, j0, hj, hc, hd⟩ := (pf p q c e k h1 h2).mp hP
      obtain ⟨k', j', k0, kk, j0', jj, e', d'⟩ := soon a4 a5 a6 a7 a8 a9 a10 b4 b5 b6 b7 b8 b9 b10 (w01 e).1 (w01 e).2 (by omega) j0 hj hd
      exact hl k' k0 kk ((pf p q c e k' h1 h2).mpr ⟨j', j0', e', fun v hv => by have := hc v hv; omega, d'⟩)
  have lng : ∀ p, p < n → 334 ≤ cyc N str p := fun p h1 => by
    obtain ⟨_, _, a3, _, _, _, _, a8, a9, a10⟩ := hp p h1
    exact long hf hN a3 a8 a9 a10
  -- near: ring and fence alike
  have alike : ∀ p q c e k, p < n → q < n → 0 ≤ k → d p + k ≤ 100 → (PR N (cyc N str p) (cyc N str q) (day p) (post p) (str p) (day q) (post q) (str q) (c.getD (cyc N str q)) e k ↔ PF (day p) (post p) (str p) (day q) (post q) (str q) c e k) := fun p q c e k h1 h2 k0 hk => by
    obtain ⟨a1, a2, a3, a4, a5, a6, a7, a8, a9, a10⟩ := hp p h1
    obtain ⟨b1, b2, b3, b4, b5, b6, b7, b8, b9, b10⟩ := hp q h2
    have w := w01 e
    have lp := lng p h1
    have lq := lng q h2
    rw [pf p q c e k h1 h2]
    constructor
    · rintro ⟨_, j, j0, j1, hdv, hjl, hd⟩
      rw [a1, b1] at hd
      refine ⟨j, j0, ?_, fun v hv => by rw [hv] at hjl; exact hjl, by omega⟩
      rw [a2, a3, b2, b3] at hdv
      have e1 : (S + f * x p + k * (f * s p)) - (S + f * x q + j * (f * s q)) = f * (x p + k * s p - (x q + j * s q)) := by grind
      rw [e1] at hdv
      have m1 := mul6 k0 (by omega) a8 a9
      have m2 := mul6 j0 (by omega) b8 b9
      have := near hf hN (by omega) (by omega) hdv
      omega
    · rintro ⟨j, j0, hj, hc, hd⟩
      refine ⟨by omega, j, j0, by omega, ?_, ?_, by omega⟩
      · rw [a2, a3, b2, b3, (scale_eq hf).mpr hj]
        exact ⟨0, by omega⟩
      · cases c with
        | none => show j < cyc N str q; omega
        | some v => exact hc v rfl
  refine ⟨D + 100, fun p q c k h1 h2 _ hb => ?_, fun p q c k h1 h2 _ hk => ?_, fun p k h1 hb => ?_, fun p q v k h1 h2 _ hb => ?_⟩
  · have z : IsLeast (PF (day p) (post p) (str p) (day q) (post q) (str q) c (decide (q < p))) (some k) := by rw [← hb]; exact least_ok _
    have := early p q c _ k h1 h2 z.2.1 z.2.2
    obtain ⟨a1, _, _, _, a5, _⟩ := hp p h1
    omega
  · obtain ⟨a1, _⟩ := hp p h1
    have iff1 : ∀ k', 0 ≤ k' → k' ≤ k → (PR N (cyc N str p) (cyc N str q) (day p) (post p) (str p) (day q) (post q) (str q) (c.getD (cyc N str q)) (decide (q < p)) k' ↔ PF (day p) (post p) (str p) (day q) (post q) (str q) c (decide (q < p)) k') := fun k' g0 g1 =>
      alike p q c _ k' h1 h2 g0 (by omega)
    constructor
    · intro hb
      have z : IsLeast (PR N (cyc N str p) (cyc N str q) (day p) (post p) (str p) (day q) (post q) (str q) (c.getD (cyc N str q)) (decide (q < p))) (some k) := by rw [← hb]; exact least_ok _
      exact (least_eq (P := PF (day p) (post p) (str p) (day q) (post q) (str q) c (decide (q < p))) (r := some k) ⟨z.1, (iff1 k z.1 (Int.le_refl _)).mp z.2.1, fun k' g0 g1 g2 => z.2.2 k' g0 g1 ((iff1 k' g0 (by omega)).mpr g2)⟩).symm
    · intro hb
      have z : IsLeast (PF (day p) (post p) (str p) (day q) (post q) (str q) c (decide (q < p))) (some k) := by rw [← hb]; exact least_ok _
      exact (least_eq (P := PR N (cyc N str p) (cyc N str q) (day p) (post p) (str p) (day q) (post q) (str q) (c.getD (cyc N str q)) (decide (q < p))) (r := some k) ⟨z.1, (iff1 k z.1 (Int.le_refl _)).mpr z.2.1, fun k' g0 g1 g2 => z.2.2 k' g0 g1 ((iff1 k' g0 (by omega)).mp g2)⟩).symm
  · have e : cyc N str p = k := Option.some.inj hb
    have := lng p h1
    obtain ⟨a1, _, _, a4, _⟩ := hp p h1
    omega
  · have z : IsLeast (PR N (cyc N str p) (cyc N str q) (day p) (post p) (str p) (day q) (post q) (str q) v (decide (q < p))) (some k) := by rw [← hb]; exact least_ok _
    obtain ⟨z0, ⟨z1, j, j0, j1, j2, _, j4⟩, _⟩ := z
    have w : PR N (cyc N str p) (cyc N str q) (day p) (post p) (str p) (day q) (post q) (str q) (cyc N str q) (decide (q < p)) k := ⟨z1, j, j0, j1, j2, j1, j4⟩
    have lo := least_ok (PR N (cyc N str p) (cyc N str q) (day p) (post p) (str p) (day q) (post q) (str q) (cyc N str q) (decide (q < p)))
    show ∃ k', k' ≤ k ∧ least (PR N (cyc N str p) (cyc N str q) (day p) (post p) (str p) (day q) (post q) (str q) (cyc N str q) (decide (q < p))) = some k'
    generalize least (PR N (cyc N str p) (cyc N str q) (day p) (post p) (str p) (day q) (post q) (str q) (cyc N str q) (decide (q < p))) = r at *
    cases r with
    | none => exact absurd w (lo k z0)
    | some k' =>
      refine ⟨k', ?_, rfl⟩
      by_cases q : k' ≤ k
      · exact q
      · exact absurd w (lo.2.2 k z0 (by omega))
end PM
end
section
set_option maxHeartbeats 4000000
/-! Bounds on the blocks' counts. Plain Lean. -/
namespace PM
theorem least_some {P : Int → Prop} {k : Int} (h : least P = some k) : 0 ≤ k ∧ P k ∧ ∀ k', 0 ≤ k' → k' < k → ¬ P k' := by
  have z := least_ok P
  rw [h] at z
  exact z
theorem fence_early {n : Nat} {N f : Int} {day post str : Nat → Int} (F : Fenced n N f day post str) {p q : Nat} {c : Option Int} {k : Int} (h1 : p < n) (h2 : q < n) (h : fbF day post str p q c = some k) : 0 ≤ k ∧ k < 80 := by
  obtain ⟨hf, hN, D, S, d, x, s, hp⟩ := F
  obtain ⟨k0, hP, hl⟩ := least_some h
  refine ⟨k0, Classical.byContradiction fun hk => ?_⟩
  obtain ⟨a1, a2, a3, a4, a5, a6, a7, a8, a9, a10⟩ := hp p h1
  obtain ⟨b1, b2, b3, b4, b5, b6, b7, b8, b9, b10⟩ := hp q h2
  generalize (decide (q < p)) = e at hP hl
  have w01 : 0 ≤ (if e then (0 : Int) else 1) ∧ (if e then (0 : Int) else 1) ≤ 1 := by cases e <;> decide
  unfold PF at hP hl
  rw [a1, a2, a3, b1, b2, b3] at hP
  obtain ⟨j, j0, hj, hc, hd⟩ := hP
  obtain ⟨k', j', k0', kk, j0', jj, e', d'⟩ := soon a4 a5 a6 a7 a8 a9 a10 b4 b5 b6 b7 b8 b9 b10 w01.1 w01.2 (by omega) j0 ((scale_eq hf).mp hj) (by omega)
  refine hl k' k0' kk ⟨j', j0', ?_, fun v hv => ?_, ?_⟩
  · rw [a2, a3, b2, b3]
    exact (scale_eq hf).mpr e'
  · have := hc v hv
    omega
  · rw [a1, b1]
    omega
theorem cyc_pos {N : Int} (hN : 0 < N) (str : Nat → Int) (p : Nat) : 0 < cyc N str p ∧ cyc N str p ≤ N := by
  unfold cyc
  have g0 : 0 < ((Int.gcd (str p % N) N : Nat) : Int) := gcd_pos_r (by omega)
  refine ⟨Int.ediv_pos_of_pos_of_dvd hN (by omega) (Int.gcd_dvd_right _ _), ?_⟩
  exact Int.ediv_le_self _ (by omega)
theorem ring_le {N : Int} {day post str : Nat → Int} {p q : Nat} {c : Option Int} {k : Int} (h : fbR N day post str p q c = some k) : 0 ≤ k ∧ k ≤ cyc N str p := by
  obtain ⟨k0, ⟨hP, _⟩, _⟩ := least_some h
  exact ⟨k0, by omega⟩
end PM
end
section
set_option maxHeartbeats 4000000
/-! super().m(e, ..) in a method whose def captures __class__. -/
namespace PR
open PySem PySem.Spec PyProof.Rows L2 StX NdefX
/-- what the written part tells for super() in the def at f, of the class at C; g: the method found behind C -/
structure SupF (P : Program) (K : PySem.W.Frag) (C f g cc cda : Addr) (ar : Arg) (m : Str) : Prop where
  fn : ∃ of fd, K.lookup f = some of ∧ of.data = .func fd ∧ (fd.params.posonlyargs ++ fd.params.args).head? = some ar
  code : ∃ oc vs file tf, K.lookup cda = some oc ∧ oc.data = .fields vs ∧ vs[2]? = some (.str file tf) ∧ ((P.main.file : Str) == file) = true
  cell : ∃ o, K.lookup cc = some o ∧ o.data = .cell (some (.ref C))
  sub : PySem.W.mroIn K C (.ref C) = some true
  top : (P.main.scope.names.lookup ("super" : Str)).isSome = false
  any : PySem.W.nsIn K cStatics "thirdparty.any" = some none
  meth : PySem.W.ks_superIn K C C m = some (some (.ref g))
  ty : PySem.W.typeIn K (.ref g) = some (.type "function")
  fi : PySem.W.fnIn K g = true
theorem wp_super {X : Cx} {pins : List (Addr × Obj)} {σ : L2.St} {H : Hp} {s : Shared} {C f g cc cda b dx : Addr} {fs : List (Str × V)} {ar : Arg} {m : Str} {k : Nat} {sp : Sp} {e : Expr} {es : List Expr} {t : TA} {Q : VK} {body : List Stmt} {p0 p1 apos pos : Pos}
    (I : Inv X pins σ H s) (S : SupF X.prog X.K C f g cc cda ar m) (hat : (m == ("__class__" : Str)) = false) (hfu : X.env.func = some f) (hco : X.env.code = .ref cda) (hks : X.env.kindOf "super" = some .globalImplicit) (hkc : X.env.kindOf "__class__" = some .free) (hcc : X.env.cells.lookup ("__class__" : Str) = some cc)
    (hms : X.mg "super" = none) (hself : X.N[0]? = some ar.arg) (hloc : X.env.kindOf ar.arg = some .local) (hσ : σ[0]? = some (some (.ref b))) (hb : H b = some (.ins C dx fs)) (F : Fn X.prog X.w X.K X.mg X.base k g sp) (hr : Room k X.A) (ha : PA X (e :: es) t)
    (hst : starEach (e :: es) X.env = (false, eval e X.env) :: starEach es X.env) (hpl : (backTo pos (starEach es X.env)).any (·.1) = false) (hform : methodCallForm ((e :: es).length + ([] : List Keyword).length) (backTo pos (starEach (e :: es) X.env)) (backToKw pos (keywordEach [] X.env)) = true) (hline : (apos.endLine == pos.line) = true)
    (hq : ∀ q, H q = none → t σ (upd H q (.met g b)) fun vs H2 => H2 q = some (.met g b) ∧ sp (.ref b :: vs) H2 Q E0) :
    _root_.PySem.wpAt (model X.prog X.w) X.A (.func body X.env) (eval (.Call (.Attribute (.Call (.Name "super" p0) [] [] p1) m apos) (e :: es) [] pos) X.env) (EP X pins σ Q) X.xe s := by
  obtain ⟨of, fd, lk, hfd, hp⟩ := S.fn
  obtain ⟨oc, vs, file, tf, lkc, hoc, hvs, hfile⟩ := S.code
  obtain ⟨ocl, lcl, hcl⟩ := S.cell
  have kin := I.kIn
  have loc := I.loc
  obtain ⟨mL, hn, hl⟩ := loc
  have vis : Vis X.env.scope ar.arg := .inl hloc
  obtain ⟨u, ru, lu⟩ := hl 0 ar.arg (.ref b) hself hσ vis
  cases (show u = Value.ref b from ru)
  have hmL : mL ar.arg = some (.ref b) := by
    rcases lu with ⟨_, z⟩ | ⟨z, _⟩
    · exact z
    · rcases z with z | z <;> rw [hloc] at z <;> cases z
  obtain ⟨cd, hcd⟩ : ∃ cd, PySem.W.clsIn X.K C = some cd := by
    cases z : PySem.W.clsIn X.K C with
    | none =>
      have := S.meth
      unfold PySem.W.ks_superIn at this
      rw [z] at this
      cases this
    | some cd => exact ⟨cd, rfl⟩
  obtain ⟨oD, hD1, hD2⟩ : ∃ oD, s.heap.get? C = some oD ∧ oD.data = .cls cd := by
    have z := hcd
    unfold PySem.W.clsIn at z
    split at z
    · rename_i c d cd' sl ho
      cases z
      exact ⟨_, kin _ _ ho, rfl⟩
    · cases z
  obtain ⟨od, J⟩ := inst_of I hb
  obtain ⟨ofg, hfg, hfgc⟩ : ∃ o, s.heap.get? g = some o ∧ o.cls = .type "function" := by
    have ht' : (X.K.lookup g).map (·.cls) = some (.type "function") := S.ty
    cases z : X.K.lookup g with
    | none => rw [z] at ht'; cases ht'
    | some o => rw [z] at ht'; exact ⟨o, kin _ _ z, Option.some.inj ht'⟩
  obtain ⟨mb, bl1, bl2⟩ := I.mod.blt
  have hsup : PySem.W.alongIn X.K m ((cd.mro.dropWhile (· != .ref C)).drop 1) = some (some (.ref g)) := by
    have z := S.meth
    unfold PySem.W.ks_superIn at z
    rw [hcd] at z
    exact z
  have hbC : b ≠ C := PySem.W.ks_ne kin J hcd
  rw [arm_eval_Call]
  obtain ⟨hh, gg, dd, tt, os⟩ := s
  refine PySem.wpAt_bind (ks_wpAt_super_base (env := X.env) hks hkc hat hfu (kin _ _ lk) hfd hp hco (kin _ _ lkc) hoc hvs hfile S.top ?_)
  refine PySem.W.ks_loadName_global I.ok.kind hks (Calls.loadGlobal_builtin (by rw [I.ok.glob]; exact I.mod.glob.keeps I.bk) hms (by rw [I.ok.blt]; exact bl1.keeps I.bk) ((bl2 _ (by decide)).trans (by decide +kernel : bootBuiltins "super" = some (.type "super"))) ⟨rfl, ?_⟩)
  refine wpAny_loadName_free I.ok.kind hkc hcc ⟨_, kin _ _ lcl, hcl⟩ ?_
  refine wpAny_loadName_local I.ok.kind hloc hn hmL ?_
  refine ks_wpAny_isType_cls hD1 hD2 ⟨rfl, ?_⟩
  refine ks_wpAny_call_super hD1 hD2 J.at_ J.cls (fun c z => ?_) (PySem.W.looks_mroIn kin S.sub) (fun h' e1 k1 => ?_)
  · have := J.no
    unfold PySem.W.notCls at this
    rw [z] at this
    exact Bool.noConfusion this
  have I1 : Inv X pins σ H ⟨h', gg, dd, tt, os⟩ := I.kept (t' := tt) k1
  refine wpAt_of_wpAny (wpAny_bind (wpAny_standAt ?_))
  rw [mcall_line hform hline]
  refine wpAny_bind (wpAny_holding ?_)
  have hC2 : PySem.W.Looks (model X.prog X.w) h' (mroOf (.ref C)) cd.mro := fun A Q E s k q => wpAny_bind ((PySem.W.looks_clsIn I1.kIn hcd) A _ E s k (wpAny_pure q))
  refine ks_wpAny_getMethod_super (K := X.K) e1 (PySem.W.looks_opaque I1.kIn S.any) hC2 rfl I1.kIn hsup (k1 _ _ hfg) hfgc hbC hat ?_
  have hfresh : H h'.objs.size = none := I1.hok.fresh (Nat.le_refl _)
  have I2 : Inv X pins σ (upd H h'.objs.size (.met g b)) ⟨h'.push (PySem.W.methodObj (.ref g) (.ref b)), gg, dd, tt + 1, os⟩ :=
    I1.laid (t' := tt + 1) (a := h'.objs.size) (o := .met g b) (fun b u z => Heap.get?_push_of_some _ z) (Nat.le_refl _) (show (h'.push (PySem.W.methodObj (.ref g) (.ref b))).get? h'.objs.size = some (PySem.W.methodObj (.ref g) (.ref b)) from Heap.get?_push_size h' rfl)
  have hargs : (((backTo pos (starEach (e :: es) X.env)).any (·.1) || (backToKw pos (keywordEach [] X.env)).any (·.1.isNone)) = false) := by
    rw [hst]
    show ((false || (backTo pos (starEach es X.env)).any (·.1)) || false) = false
    rw [hpl]; rfl
  refine callwith_met (a := b) hargs S.fi ?_
  have z := thn (ha.run pos pins _ σ _ _ I2 (hq _ hfresh)) fun us s3 ⟨vs2, H3, I3, r3, m3, q3⟩ => (⟨met_P I3 m3, wpAny_call (call_met I3 m3 (run_fnR (us := .ref b :: us) (vs := .ref b :: vs2) F hr pass0 I3 (.cons rfl r3) q3))⟩ :
    PySem.W.MethP X.K h'.objs.size g (.ref b) s3.heap ∧ wpAny (model X.prog X.w) X.A (call (.ref h'.objs.size) us) (EP X pins σ Q) X.xe s3)
  rw [hst] at z ⊢
  exact Calls.evalArgs_plain z
end PR
end
section
set_option maxHeartbeats 4000000
/-! repr of a nest of tuples, where no repr is under way. -/
namespace PR
open PySem PySem.Spec PyProof.Rows L2 StX
def rReprD (K : PySem.W.Frag) : List V → Hp → VK → Prop := fun xs H Q => ∃ a d, xs = [.ref a] ∧ Dp K H (.ref a) d ∧ d.showable = true ∧ d.hasDict = false ∧ d.depth ≤ 60 ∧ d.shown.length ≤ sizeLine ∧ Q (.str d.shown) H
theorem call_repr_D {X : Cx} (hg : X.A.guards = some []) (hu : X.A.units + 64 < cLine) : CallR X (.builtin "repr") (rReprD X.K) := by
  intro pins s σ H xs us Q I r h
  obtain ⟨a, d, rfl, hd, h1, h2, h3, h4, q⟩ := h
  obtain ⟨u, rfl, ru⟩ := vals1 r
  obtain rfl : u = Value.ref a := ru
  obtain ⟨as, rd⟩ := Dp.reads I d _ _ hd (show RelV (.ref a) (.ref a) from rfl)
  exact repr_of_reads' rd h1 (fun z => by rw [h2] at z; cases z) hg (by omega) (fun _ _ e => e) (fun h' u tk hk => ⟨.str _, H, I.kept (t' := tk) hk, ⟨u, rfl⟩, q⟩) h4
/-! ### texts of short data -/
theorem int_short {i : Int} (h : i.natAbs < 10 ^ 60) : (PyData.shown (.int i)).length ≤ 100 := by
  have e := int_text_length_le10 (k := 60) (by decide) h
  show (Str.ofString (toString i)).length ≤ 100
  rw [PySem.ofString_length]
  omega
theorem int_log {i : Int} (h : i.natAbs < 10 ^ 60) : i.natAbs.log2 < 1920 := by
  by_cases h0 : i.natAbs = 0
  · rw [h0]; decide
  · have : i.natAbs < 2 ^ 200 := Nat.lt_of_lt_of_le h (by decide)
    have := (Nat.log2_lt h0).mpr this
    omega
theorem row_show {z b : Str} {n d p : Int} (hz : ∀ c ∈ z.cps.toList, c < 16 ^ 8) (hb : ∀ c ∈ b.cps.toList, c < 16 ^ 8) (lz : z.length ≤ 8) (lb : b.length ≤ 8) (hn : n.natAbs < 10 ^ 60) (hd : d.natAbs < 10 ^ 60) (hp : p.natAbs < 10 ^ 60) :
    (PyData.tuple [.str z, .int n, .tuple [.int d, .int p, .str b]]).showable = true ∧ (PyData.tuple [.str z, .int n, .tuple [.int d, .int p, .str b]]).hasDict = false ∧ (PyData.tuple [.str z, .int n, .tuple [.int d, .int p, .str b]]).depth ≤ 60 ∧ (PyData.tuple [.str z, .int n, .tuple [.int d, .int p, .str b]]).shown.length ≤ sizeLine := by
  refine ⟨?_, rfl, ?_, ?_⟩
  · simp [PyData.showable, PyData.showableAll, int_log hn, int_log hd, int_log hp]
  · simp [PyData.depth, PyData.depthAll]
  · have hl : (PyData.tuple [.str z, .int n, .tuple [.int d, .int p, .str b]]).leavesShort 100 = true := by
      have z1 := int_short hn
      have z2 := int_short hd
      have z3 := int_short hp
      simp only [PyData.leavesShort, PyData.leavesShortAll, Bool.and_eq_true, List.all_eq_true, decide_eq_true_eq, and_true]
      exact ⟨hz, z1, z2, z3, hb⟩
    have h := PyData.shown_le_bulk 100 (by decide) _ hl
    have hk : (PyData.tuple [.str z, .int n, .tuple [.int d, .int p, .str b]]).bulk = z.length + 1 + (0 + 1 + ((0 + 1 + (0 + 1 + (b.length + 1 + 0))) + 1 + 0)) := rfl
    rw [hk] at h
    refine Nat.le_trans h (Nat.le_trans (?_ : _ ≤ 10000) (by decide))
    omega
end PR
end
section
set_option maxHeartbeats 4000000
/-! A def called at one place alone. -/
namespace PR
open PySem PySem.Spec PyProof.Rows L2 StX NdefX LamX
/-- a promise kept where A is around -/
def FnA (P : Program) (w : World) (K : PySem.W.Frag) (mg : Str → Option Value) (base : Heap) (A : Around) (g : Addr) (sp : Sp) : Prop :=
  ∀ (outer : List Env) (s : Shared) (H : Hp) (us : List Value) (vs : List V) (Q : VK), Env0 P w K mg base A outer s H → Vals vs us → sp vs H Q E0 →
    codeAny (model P w) A (.call (.ref g) ⟨us, []⟩) (CR CX0 outer P w H s Q E0) s
section
variable {P : Program} {w : World} {K : PySem.W.Frag} {mg : Str → Option Value} {base : Heap} {k : Nat} {g : Addr} {sp : Sp} {x qual : Str} {params : Arguments} {body : List Stmt} {scope : Scope} {N ps : List Str} {A : Around}
theorem okA {fd : FuncData} (F : FunD K x qual params body scope [] [] g fd) (S : FnScope N ps scope) (hr : Room (k + 1) A) (len : ∀ vs H Q, sp vs H Q E0 → vs.length = ps.length)
    (hb : ∀ (kV doc pm : Value) (an : Option Addr) (cdv ct : Value) (us : List Value), us.length = ps.length → bindArgs (PySem.W.fnOf x qual params body scope .none kV doc pm an cdv ct) ⟨us, []⟩ = pure (ps.zip us))
    (hbody : ∀ (cdv : Value) (outer : List Env) (s : Shared) (H : Hp) (vs : List V) (Q : VK), Room k (A.deeper (envOfC qual scope s.heap.objs.size g cdv)) → sp vs H Q E0 →
      ∃ t, PSs (cxOf CX0 P w K mg base N qual scope g cdv A outer s H E0).nox body t ∧ t ⟨fun _ H' => Q .non H', Q, fun _ _ => False, fun _ _ => False⟩ (start N vs) H) : FnA P w K mg base A g sp := by
  intro outer s H us vs Q e0 rv hsp
  have B1 := F.bindsN hb
  obtain ⟨oc, od, dV, kV, doc, pm, an, cdv, ct, osl, rfl, lk, hcd, _, _⟩ := F.ex
  have lenV := len _ _ _ hsp
  have inK : K.In s.heap := e0.mod.kin.keeps fun b o e => (e0.bs b o e).1
  have noL := e0.mod.nolimit.keeps (h' := s.heap) fun b o e => (e0.bs b o e).1
  have lenU : us.length = ps.length := rv.length.symm.trans lenV
  have B2 : BindsTo s (PySem.W.fnOf x qual params body scope dV kV doc pm an cdv ct) ⟨us, []⟩ (ps.zip us) := by
    have z := B1 s us inK (by rw [List.append_nil]; exact lenU)
    rw [List.append_nil] at z
    exact z
  refine codeAny_call_function hr.depth (inK _ _ lk) rfl S.co S.gen rfl (PySem.W.codeRec_of inK hcd) (B2 _ _ _ _ ?_)
  refine wpAny_newFunctionEnv_cells S.kind (fun y hy => (S.par y.1 (List.of_mem_zip hy).1).elim .inl fun q => .inr ⟨q, PySem.W.cellsFrom_some _ _ _ (.inl q)⟩) fun env he s1 z => ?_
  subst he
  refine ⟨noL.keeps z.toInCall.keep, codeAny_func ?_⟩
  obtain ⟨t, ht, hq⟩ := hbody cdv outer s H vs Q (hr.deeper _) hsp
  have J0 : Inv (cxOf CX0 P w K mg base N qual scope g cdv A outer s H E0) [] (start N vs) H s1 := inv_start S hr.hd e0 lenV rv z
  refine wpAny_mono (ht.nox.run [] s1 (start N vs) H _ J0 hq) (fun fl s' hs => ?_) fun e s' hs => hs
  cases fl with
  | ret u =>
    obtain ⟨v, σ', H', J, r2, q⟩ := hs
    exact ⟨v, H', J.os, J.bare, J.base, J.hok, r2, q⟩
  | next =>
    obtain ⟨σ', H', J, q⟩ := hs
    exact ⟨V.non, H', J.os, J.bare, J.base, J.hok, rfl, q⟩
  | brk =>
    obtain ⟨_, _, _, q⟩ := hs
    exact q.elim
  | cont =>
    obtain ⟨_, _, _, q⟩ := hs
    exact q.elim
end
end PR
end
section
set_option maxHeartbeats 4000000
/-! The end of the row where the law's promise is one at the caller alone. -/
namespace PR
open PySem PySem.Spec PyProof.Rows L2 StX NdefX LamX
section
variable {P : Program} {w : World} {K : PySem.W.Frag} {mg mb : Str → Option Value} {fa a : Addr} {cs : List (Addr × Addr)} {sp : Sp} {S : Shared} {us : List Value} {zs : List Int}
/-- the tables, and the script where K does not hold it -/
def hpA (K : PySem.W.Frag) (cs : List (Addr × Addr)) (a : Addr) (us : List Value) (zs : List Int) : Hp := fun b =>
  if b ∈ cs.map Prod.snd then some (.tbl #[]) else if b = a ∧ K.lookup a = none then some (.frz { cls := .type "list", data := .seq us.toArray } (.lst (zs.map V.int))) else none
theorem hpA_tab {p : Addr × Addr} (h : p ∈ cs) : hpA K cs a us zs p.2 = some (.tbl #[]) := if_pos (List.mem_map_of_mem h)
theorem hpA_some {b : Addr} {u : HO} (h : hpA K cs a us zs b = some u) : (∃ p ∈ cs, p.2 = b ∧ u = .tbl #[]) ∨ (b = a ∧ K.lookup a = none ∧ u = .frz { cls := .type "list", data := .seq us.toArray } (.lst (zs.map V.int))) := by
  unfold hpA at h
  split at h
  · rename_i hb
    obtain ⟨p, hp, e⟩ := List.mem_map.mp hb
    exact .inl ⟨p, hp, e, (Option.some.inj h).symm⟩
  · split at h
    · rename_i hb
      exact .inr ⟨hb.1, hb.2, (Option.some.inj h).symm⟩
    · cases h
/-- what is known of the state at the law's call -/
structure AtCall (K : PySem.W.Frag) (mg mb : Str → Option Value) (cs : List (Addr × Addr)) (a : Addr) (us : List Value) (zs : List Int) (S : Shared) : Prop where
  kx : K.In S.heap
  ns : S.heap.Ns mainGlobals mg
  bt : S.heap.Ns builtinsNs mb
  bb : ∀ x : Str, x ≠ "__name__" → mb x = bootBuiltins x
  lim : S.heap.NoLimit
  gens : S.gens = #[]
  te : ∀ p ∈ cs, S.heap.get? p.2 = some { cls := .none, data := .fields #[] }
  tk : ∀ p ∈ cs, K.lookup p.2 = none
  tc : ∀ p ∈ cs, PySem.W.CodeHd S.heap p.1 p.2
  bm : ∃ (m : Addr) (om : Obj), mg "__builtins__" = some (.ref m) ∧ m ≠ builtinsNs ∧ S.heap.get? m = some om ∧ om.cls = .type "module" ∧ om.dict = some builtinsNs ∧ om.data = .plain
  at_ : S.heap.get? a = some { cls := .type "list", data := .seq us.toArray }
  isI : IntsAre us zs
  size : zs.length ≤ sizeLine
theorem AtCall.nota (q : AtCall K mg mb cs a us zs S) : a ∉ cs.map Prod.snd := fun z => by
  obtain ⟨p, hp, e⟩ := List.mem_map.mp z
  have h1 := q.te p hp
  rw [e, q.at_] at h1
  have h2 : Data.seq us.toArray _ = Data.fields #[] := congrArg Obj.data (Option.some.inj h1)
  cases h2
theorem AtCall.sq (q : AtCall K mg mb cs a us zs S) : SqL K (hpA K cs a us zs) a (zs.map V.int) := by
  cases hk : K.lookup a with
  | none =>
    refine .inl (.inr ⟨{ cls := .type "list", data := .seq us.toArray }, ?_⟩)
    unfold hpA
    rw [if_neg q.nota, if_pos ⟨rfl, hk⟩]
  | some o =>
    have h1 := q.kx a o hk
    rw [q.at_] at h1
    cases h1
    exact .inr ⟨_, us.toArray, _, hk, rfl, rfl, rfl, by rw [List.size_toArray, q.isI.length]; exact q.size, by simpa using vals_ints q.isI⟩
theorem AtCall.hok (q : AtCall K mg mb cs a us zs S) : HOk P w (hpA K cs a us zs) S.heap := fun b u h => by
  rcases hpA_some h with ⟨p, hp, rfl, rfl⟩ | ⟨rfl, _, rfl⟩
  · exact q.te p hp
  · exact ⟨q.at_, by rw [List.length_map]; exact q.size, us, _, vals_ints q.isI, q.at_⟩
/-- an object that is neither a table nor the script stays out of the tracked ones -/
theorem AtCall.free (q : AtCall K mg mb cs a us zs S) {b : Addr} {o : Obj} (h : S.heap.get? b = some o) (h1 : o.data ≠ .fields #[]) (h2 : ∀ x n, o.data ≠ .seq x n) : hpA K cs a us zs b = none := by
  cases e : hpA K cs a us zs b with
  | none => rfl
  | some u =>
    rcases hpA_some e with ⟨p, hp, rfl, _⟩ | ⟨rfl, _, _⟩
    · have := q.te p hp
      rw [h] at this
      exact absurd (congrArg Obj.data (Option.some.inj this)) h1
    · have := q.at_
      rw [h] at this
      exact absurd (congrArg Obj.data (Option.some.inj this)) (h2 _ _)
theorem AtCall.nsB (q : AtCall K mg mb cs a us zs S) {b : Addr} {m : Str → Option Value} (h : S.heap.Ns b m) : (hidT S.heap (hpA K cs a us zs)).Ns b m := by
  obtain ⟨o, es, ep, h1, h2, r⟩ := h
  exact ⟨o, es, ep, hidT_get h1 (q.free h1 (by rw [h2]; intro z; cases z) (by rw [h2]; intro x n z; cases z)), h2, r⟩
theorem AtCall.kB (q : AtCall K mg mb cs a us zs S) : K.In (hidT S.heap (hpA K cs a us zs)) := fun b o h => by
  refine hidT_get (q.kx b o h) ?_
  cases e : hpA K cs a us zs b with
  | none => rfl
  | some u =>
    rcases hpA_some e with ⟨p, hp, rfl, _⟩ | ⟨rfl, hk, _⟩
    · rw [q.tk p hp] at h; cases h
    · rw [hk] at h; cases h
theorem AtCall.tabs (q : AtCall K mg mb cs a us zs S) : ∀ p ∈ cs, TabB (hidT S.heap (hpA K cs a us zs)) mg p.1 p.2 := fun p hp => by
  have ht := q.te p hp
  refine ⟨?_, ?_, fun z => ?_⟩
  · obtain ⟨o, xs, file, tf, flags, tg, inF, text, tt, e1, r1, r2, r3, r4, r5, r6, r7, r8, hne⟩ := q.tc p hp
    refine ⟨o, xs, file, tf, flags, tg, inF, text, tt, hidT_get e1 (q.free e1 (fun z => ?_) fun x n z => ?_), r1, r2, r3, r4, r5, r6, r7, r8, hne⟩
    · rw [r2] at z; cases z; simp at r3
    · rw [r2] at z; cases z
  · obtain ⟨m, om, b1, b2, b3, b4, b5, b6⟩ := q.bm
    refine ⟨m, om, b1, b2, fun z => ?_, fun z => ?_, hidT_get b3 (q.free b3 (by rw [b6]; intro z; cases z) (by rw [b6]; intro x n z; cases z)), b4, b5, b6⟩
    · obtain ⟨o, es, ep, h1, h2, _⟩ := q.ns
      rw [z, h1] at b3
      cases b3
      rw [h2] at b6; cases b6
    · rw [z, ht] at b3
      cases b3; cases b6
  · obtain ⟨o, es, ep, h1, h2, _⟩ := q.ns
    rw [z, ht] at h1
    cases h1; cases h2
theorem AtCall.env (q : AtCall K mg mb cs a us zs S) : Env0 P w K mg (hidT S.heap (hpA K cs a us zs)) callerA [] S (hpA K cs a us zs) := by
  obtain ⟨mc, l1, l2⟩ := q.lim
  exact ⟨rfl, ⟨q.kB, q.nsB q.ns, ⟨mb, q.nsB q.bt, q.bb⟩, ⟨mc, q.nsB l1, l2⟩⟩, fun b o h => of_hidT h, Nat.le_of_eq (hidT_size _ _), trivial, fun b hb => (by cases hb), q.hok, .of_eq q.gens⟩
theorem law_callA (q : AtCall K mg mb cs a us zs S) (F : ∀ base : Heap, K.In base → base.Ns mainGlobals mg → (∀ p ∈ cs, TabB base mg p.1 p.2) → FnA P w K mg base callerA fa sp)
    (hsp : ∀ H : Hp, (∀ p ∈ cs, H p.2 = some (.tbl #[])) → SqL K H a (zs.map V.int) → sp [.ref a] H (fun v _ => v = .bl true) E0) :
    codeAny (model P w) callerA (.call (.ref fa) ⟨[.ref a], []⟩) (fun r s' => r = .ok (.ret (.bool true)) ∧ OldK S.heap s'.heap ∧ s'.os = S.os ∧ AllBare s'.gens) S := by
  refine codeAny_mono (F _ q.kB (q.nsB q.ns) q.tabs [] S _ [.ref a] [.ref a] (fun v _ => v = .bl true) q.env (.cons rfl .nil) (hsp _ (fun p hp => hpA_tab hp) q.sq)) fun r s' h => ?_
  match r, h with
  | .error e, h => exact h.elim
  | .ok .next, h => exact False.elim h
  | .ok .brk, h => exact False.elim h
  | .ok .cont, h => exact False.elim h
  | .ok (.ret u), h =>
    obtain ⟨v, H', os, bare, un, hok', rv, rfl⟩ := h
    obtain rfl : u = Value.bool true := rv
    have stay : ∀ b o, b ∉ cs.map Prod.snd → S.heap.get? b = some o → s'.heap.get? b = some o := fun b o nb hbo => by
      cases e : hpA K cs a us zs b with
      | none => exact un.keep b o hbo e (fun z => by cases z) (fun z => by cases z)
      | some u =>
        rcases hpA_some e with ⟨p, hp, rfl, _⟩ | ⟨rfl, _, rfl⟩
        · exact absurd (List.mem_map_of_mem hp) nb
        · obtain ⟨e1, _⟩ := hok' _ _ (un.frzs _ _ _ e)
          rw [q.at_] at hbo
          rw [← hbo]
          exact e1
    have grows : ∀ p ∈ cs, ∃ more : Array Value, s'.heap.get? p.2 = some { cls := .none, data := .fields more } := fun p hp => by
      obtain ⟨more, z⟩ := un.tbls p.2 #[] (hpA_tab hp)
      exact ⟨_, hok' p.2 _ z⟩
    refine ⟨rfl, ⟨fun b o h => ?_, fun b o h => ?_⟩, os, bare⟩
    · by_cases hb : b ∈ cs.map Prod.snd
      · obtain ⟨p, hp, rfl⟩ := List.mem_map.mp hb
        obtain ⟨more, hm⟩ := grows p hp
        rw [q.te p hp] at h
        cases h
        exact .inr (.inl ⟨((q.tc p hp).tab (q.te p hp)).isCodeTable, rfl, #[], more, rfl, by rw [Array.empty_append]; exact hm⟩)
      · exact .inl (stay b o hb h)
    · by_cases hb : b ∈ cs.map Prod.snd
      · obtain ⟨p, hp, rfl⟩ := List.mem_map.mp hb
        obtain ⟨more, hm⟩ := grows p hp
        exact ⟨_, hm⟩
      · exact ⟨o, stay b o hb h⟩
end
end PR
end
section
set_option maxHeartbeats 4000000
namespace PP
open PySem PySem.Spec PyProof.Rows L2 PR
variable {P : Program} {w : World} {K : PySem.W.Frag} {mg : Str → Option Value} {base : Heap}

/-! ### is_integer, is_between, need_count -/
/-- an int as a value handed over -/
def spInt : Sp := fun vs H Q _ => ∃ n : Int, vs = [.int n] ∧ Q (.bl true) H
theorem sc_is_integer : FnScope ["value"] ["value"] (defScope s_is_integer) := ⟨rfl, rfl, rfl, by decide +kernel, rfl, by decide +kernel, by decide +kernel⟩
theorem ok_is_integer (T : Txt K mg) : Fn P w K mg base 1 (He.ga K "is_integer") spInt := by
  obtain ⟨fd, F⟩ := T.d_is_integer
  refine okR F sc_is_integer (fun vs H Q E h => ?_) (fun _ _ _ _ _ _ us hl => match us, hl with | [_], _ => rfl) (fun cdv A outer s H vs Q E hr h => ⟨_, (pss_one (ps_ret (pe_and (pe_callB call_isi (by rfl) T.f_isinstance (by decide +kernel) (pa_cons (pv 0) (pa_cons (pe_bltn (v := .ty "int") (by rfl) T.f_int (by decide +kernel) rfl) pa_nil))) (pe_one (pe_not (pe_callB call_isi (by rfl) T.f_isinstance (by decide +kernel) (pa_cons (pv 0) (pa_cons (pe_bltn (v := .ty "bool") (by rfl) T.f_bool (by decide +kernel) rfl) pa_nil)))))))), ?_⟩)
  · obtain ⟨n, rfl, _⟩ := h; rfl
  · obtain ⟨n, rfl, q⟩ := h
    refine ⟨_, rfl, _, _, _, _, true, rfl, .ty "int", .base (.int n), kit_ty (by decide +kernel), true, rfl, ?_⟩
    refine iteT ⟨_, rfl, _, _, _, _, false, rfl, .ty "bool", .base (.int n), kit_ty (by decide +kernel), false, rfl, q⟩
def spBetween : Sp := fun vs H Q _ => ∃ n lo hi : Int, vs = [.int n, .int lo, .int hi] ∧ Q (.bl (decide (lo ≤ n ∧ n ≤ hi))) H
theorem sc_is_between : FnScope ["value", "low", "high"] ["value", "low", "high"] (defScope s_is_between) := ⟨rfl, rfl, rfl, by decide +kernel, rfl, by decide +kernel, by decide +kernel⟩
theorem ok_is_between (T : Txt K mg) : Fn P w K mg base 2 (He.ga K "is_between") spBetween := by
  obtain ⟨fd, F⟩ := T.d_is_between
  have G_is_integer := ok_is_integer (P := P) (w := w) (base := base) T
  refine okR F sc_is_between (fun vs H Q E h => ?_) (fun _ _ _ _ _ _ us hl => match us, hl with | [_, _, _], _ => rfl) (fun cdv A outer s H vs Q E hr h => ⟨_, (pss_one (ps_ret (pe_and (pe_callR G_is_integer (hr.mono (by decide)) T.g_is_integer (T.d_is_integer.elim fun _ F => F.kp) (pa_cons (pv 0) pa_nil)) (pe_one (pe_chain op_le op_le (pv 1) (pv 0) (pv 2)))))), ?_⟩)
  · obtain ⟨n, lo, hi, rfl, _⟩ := h; rfl
  · obtain ⟨n, lo, hi, rfl, q⟩ := h
    refine ⟨_, rfl, n, rfl, true, rfl, iteT ⟨_, rfl, _, rfl, _, _, rfl, rfl, _, rfl, ?_⟩⟩
    refine ite2 (fun h1 => ⟨_, rfl, _, _, rfl, rfl, ?_⟩) fun h1 => ?_
    · have e : decide (lo ≤ n ∧ n ≤ hi) = decide (n ≤ hi) := by rw [decide_eq_decide]; exact ⟨fun z => z.2, fun z => ⟨of_decide_eq_true h1, z⟩⟩
      rw [e] at q
      exact q
    · have e : decide (lo ≤ n ∧ n ≤ hi) = false := decide_eq_false fun z => h1 (decide_eq_true z.1)
      rw [e] at q
      exact q
def spNeedCount : Sp := fun vs H Q _ => ∃ n : Int, vs = [.int n] ∧ 0 ≤ n ∧ n ≤ 10 ^ 80 ∧ Q .non H
/-! ### numbers below a power of two -/
/-- sizes: a margin that no number of the law comes near -/
def Sz (n : Nat) (i : Int) : Prop := i.natAbs < 2 ^ n
theorem Sz.mono {n m : Nat} {i : Int} (h : Sz n i) (hm : n ≤ m) : Sz m i := Nat.lt_of_lt_of_le h (Nat.pow_le_pow_right (by decide) hm)
theorem Sz.mul {n m : Nat} {i j : Int} (h1 : Sz n i) (h2 : Sz m j) (h : n + m ≤ 999000) : CMulW i j :=
  wide_mul (a := n + 1) (b := m + 1) (h1.mono (Nat.le_succ n)) (h2.mono (Nat.le_succ m)) (Nat.succ_pos _) (Nat.succ_pos _) (by omega)
theorem Sz.times {n m : Nat} {i j : Int} (h1 : Sz n i) (h2 : Sz m j) : Sz (n + m) (i * j) := wide_lt h1 h2
theorem Sz.div {n : Nat} {i j : Int} (h : 0 < j) (h2 : Sz n j) (hn : n ≤ 8999) : CDivW i j := wide_div (b := n + 1) h (h2.mono (Nat.le_succ n)) (Nat.succ_pos _) (by omega)
theorem Sz.of {n : Nat} {i : Int} (h1 : -(2 ^ n) < i) (h2 : i < 2 ^ n) : Sz n i := by
  unfold Sz
  have e : ((2 ^ n : Nat) : Int) = 2 ^ n := by push_cast; rfl
  omega
theorem Sz.le {n : Nat} {i : Int} (h : Sz n i) : -(2 ^ n) < i ∧ i < 2 ^ n := by
  unfold Sz at h
  have e : ((2 ^ n : Nat) : Int) = 2 ^ n := by push_cast; rfl
  omega
theorem Sz.add {n : Nat} {i j : Int} (h1 : Sz n i) (h2 : Sz n j) : Sz (n + 1) (i + j) := by
  unfold Sz at *
  rw [Nat.pow_succ]
  omega
theorem Sz.sub {n : Nat} {i j : Int} (h1 : Sz n i) (h2 : Sz n j) : Sz (n + 1) (i - j) := by
  unfold Sz at *
  rw [Nat.pow_succ]
  omega
theorem Sz.neg {n : Nat} {i : Int} (h1 : Sz n i) : Sz n (-i) := by
  unfold Sz at *
  omega
theorem Sz.small {n : Nat} {i j : Int} (h1 : Sz n j) (h : i.natAbs ≤ j.natAbs) : Sz n i := Nat.lt_of_le_of_lt h h1
theorem Sz.ediv {n : Nat} {i j : Int} (h1 : Sz n i) (h : 0 < j) : Sz n (i / j) := by
  refine h1.small ?_
  by_cases c : 0 ≤ i
  · have b1 : 0 ≤ i / j := Int.ediv_nonneg c (by omega)
    have b2 : i / j ≤ i := Int.ediv_le_self j c
    omega
  · have b1 : i / j < 0 := Int.ediv_neg_of_neg_of_pos (by omega) h
    have b2 : i ≤ i / j := (Int.le_ediv_iff_mul_le h).mpr (by
      have := Int.mul_le_mul_of_nonpos_left (show i ≤ 0 by omega) (show 1 ≤ j by omega)
      omega)
    omega
theorem Sz.emod {n : Nat} {i j : Int} (h1 : Sz n j) (h : 0 < j) : Sz n (i % j) := by
  have a2 := Int.emod_nonneg i (show j ≠ 0 by omega)
  have a3 := Int.emod_lt_of_pos i h
  unfold Sz at *
  omega
theorem Sz.zero (n : Nat) : Sz n 0 := Nat.pow_pos (by decide)
theorem Sz.one (n : Nat) : Sz (n + 1) 1 := Nat.one_lt_two_pow (by omega)
/-- the size of the int in a slot -/
def slotN (σ : List (Option V)) (i : Nat) : Nat := match σ[i]? with
  | some (some (.int n)) => n.natAbs
  | _ => 0
theorem absI_nn (a : Int) : 0 ≤ if a < 0 then -a else a := by split <;> omega
theorem absI_abs (a : Int) : (if a < 0 then -a else a) = (a.natAbs : Int) := by split <;> omega
theorem gcd_abs (a b : Int) : Int.gcd (if a < 0 then -a else a) (if b < 0 then -b else b) = Int.gcd a b := by
  rw [absI_abs, absI_abs]
  simp [Int.gcd]
theorem gcd_step (x y : Int) : Int.gcd y (x % y) = Int.gcd x y := by
  rw [Int.gcd_comm y, Int.emod_def, Int.mul_comm]
  exact Int.gcd_sub_mul_right_left y x (x / y)
/-! ### greatest_divisor -/
def spGcd : Sp := fun vs H Q _ => ∃ a b : Int, vs = [.int a, .int b] ∧ Q (.int ((Int.gcd a b : Nat) : Int)) H
theorem sc_greatest_divisor : FnScope ["one", "other"] ["one", "other"] (defScope s_greatest_divisor) := ⟨rfl, rfl, rfl, by decide +kernel, rfl, by decide +kernel, by decide +kernel⟩
theorem ok_greatest_divisor (T : Txt K mg) : Fn P w K mg base 1 (He.ga K "greatest_divisor") spGcd := by
  obtain ⟨fd, F⟩ := T.d_greatest_divisor
  refine okR F sc_greatest_divisor (fun vs H Q E h => ?_) (fun _ _ _ _ _ _ us hl => match us, hl with | [_, _], _ => rfl) (fun cdv A outer s H vs Q E hr h => ⟨_, (pss_cons (ps_par (i := 0) (j := 1) (by rfl) sc_greatest_divisor.nd rfl rfl (by decide) rfl rfl (pa_cons (pe_callB call_abs (by rfl) T.f_abs (by decide +kernel) (pa_cons (pv 0) pa_nil)) (pa_cons (pe_callB call_abs (by rfl) T.f_abs (by decide +kernel) (pa_cons (pv 1) pa_nil)) pa_nil)) (by rfl))
    (pss_cons (ps_while PassesOwn.never (pt_cmpR op_ne (pv 1) pe_int (nomark _)) (pss_one (ps_par (i := 0) (j := 1) (by rfl) sc_greatest_divisor.nd rfl rfl (by decide) rfl rfl (pa_cons (pv 1) (pa_cons (pe_op op_mod (pv 0) (pv 1)) pa_nil)) (by rfl))))
    (pss_one (ps_ret (pv 0))))), ?_⟩)
  · obtain ⟨a, b, rfl, _⟩ := h; rfl
  · obtain ⟨a, b, rfl, q⟩ := h
    refine ⟨_, rfl, _, rfl, _, rfl, _, rfl, _, _, rfl, ?_⟩
    refine while_by (fun σ H' => H' = H ∧ ∃ x y : Int, σ = [some (.int x), some (.int y)] ∧ 0 ≤ x ∧ 0 ≤ y ∧ Int.gcd x y = Int.gcd a b) (fun σ _ => slotN σ 1) ⟨rfl, _, _, rfl, absI_nn a, absI_nn b, gcd_abs a b⟩ (fun σ H1 ⟨eH, x, y, eσ, hx, hy, hg⟩ => ?_) (fun σ H1 Q1 Q2 hm hc => ?_)
    · subst eH eσ
      refine ⟨_, rfl, rfl, _, rfl, ?_⟩
      refine ite2 (fun h1 => ?_) fun h1 => ?_
      · have hy0 : y ≠ 0 := fun z => by rw [z] at h1; exact absurd h1 (by decide)
        have hy1 : 0 < y := by omega
        have e := Int.emod_nonneg x hy0
        have e2 := Int.emod_lt_of_pos x hy1
        exact ⟨_, rfl, _, rfl, _, rfl, _, _, rfl, rfl, hy1, _, _, rfl, ⟨rfl, _, _, rfl, hy, e, (gcd_step x y).trans hg⟩, by show (x % y).natAbs < y.natAbs; omega⟩
      · have hy0 : y = 0 := Classical.byContradiction fun z => h1 (by rw [decide_eq_false (fun e => z (V.int.inj e))]; rfl)
        refine ⟨_, rfl, ?_⟩
        have e : x = ((Int.gcd a b : Nat) : Int) := by
          rw [← hg, hy0]
          simp [Int.gcd]
          omega
        rw [e]
        exact q
    · obtain ⟨v, e, hs, k, ek, q⟩ := hc
      exact ⟨v, e, hs, k, ek, hm _ _ q⟩
end PP
end
section
set_option maxHeartbeats 4000000
namespace PP
open PySem PySem.Spec PyProof.Rows L2 PR
variable {P : Program} {w : World} {K : PySem.W.Frag} {mg : Str → Option Value} {base : Heap}

/-! ### inverse -/
def spInv : Sp := fun vs H Q _ => ∃ a m : Int, vs = [.int a, .int m] ∧ 0 < m ∧ Sz 4000 m ∧ Int.gcd a m = 1 ∧ ∀ t H', Same H H' → PM.InvOk a m t → Q (.int t) H'
theorem same_new {H : Hp} {p : Addr} {o : HO} (h : H p = none) : Same H (upd H p o) := fun b ob e => (upd_ne (ne_of_none e h)).trans e
structure InvI (a m one other first second : Int) : Prop where
  o0 : 0 ≤ one
  o1 : one ≤ m
  t0 : 0 ≤ other
  t1 : other ≤ m
  f1 : first.natAbs ≤ m.natAbs
  s1 : second.natAbs ≤ m.natAbs
  f : m ∣ first * a - one
  s : m ∣ second * a - other
  g : Int.gcd one other = 1
  b : (first.natAbs : Int) * other + second.natAbs * one ≤ m
theorem invI_start {a m : Int} (hm : 0 < m) (hg : Int.gcd a m = 1) : InvI a m (a % m) m 1 0 := by
  have e := Int.emod_nonneg a (show m ≠ 0 by omega)
  have e2 := Int.emod_lt_of_pos a hm
  refine ⟨e, by omega, by omega, by omega, by omega, by omega, ?_, ?_, ?_, by simp⟩
  · have := PM.emod_dvd_sub a m
    rw [Int.one_mul]; exact this
  · rw [Int.zero_mul]; exact ⟨-1, by omega⟩
  · rw [Int.gcd_comm, gcd_step, hg]
theorem invI_step {a m one other first second : Int} (I : InvI a m one other first second) (h : other ≠ 0) :
    InvI a m other (one - one / other * other) second (first - one / other * second) ∧ (one - one / other * other).natAbs < other.natAbs := by
  obtain ⟨o0, o1, t0, t1, f1, s1, f, s, g, b⟩ := I
  have hp : 0 < other := by omega
  have e := Int.emod_nonneg one h
  have e2 := Int.emod_lt_of_pos one hp
  have e3 : one - one / other * other = one % other := by rw [Int.emod_def, Int.mul_comm]
  have q0 : 0 ≤ one / other := Int.ediv_nonneg o0 t0
  generalize hq : one / other = q at *
  have tri : ((first - q * second).natAbs : Int) ≤ first.natAbs + q * second.natAbs := by
    have h1 := Int.natAbs_sub_le first (q * second)
    rw [Int.natAbs_mul] at h1
    have h2 : (q.natAbs : Int) = q := by omega
    have h3 : ((q.natAbs * second.natAbs : Nat) : Int) = q * second.natAbs := by push_cast; rw [← h2]; simp
    omega
  have key : (second.natAbs : Int) * (one - q * other) + (first - q * second).natAbs * other ≤ m := by
    have h1 := Int.mul_le_mul_of_nonneg_right tri t0
    have h2 : ((first.natAbs : Int) + q * second.natAbs) * other = first.natAbs * other + q * second.natAbs * other := by grind
    have h3 : (second.natAbs : Int) * (one - q * other) = second.natAbs * one - q * second.natAbs * other := by grind
    omega
  refine ⟨⟨t0, t1, by rw [e3]; exact e, by rw [e3]; omega, s1, ?_, s, ?_, by rw [e3, gcd_step]; exact g, key⟩, by rw [e3]; omega⟩
  · have h1 : (second.natAbs : Int) * (one - q * other) ≥ 0 := Int.mul_nonneg (by omega) (by rw [e3]; exact e)
    have h2 : ((first - q * second).natAbs : Int) * 1 ≤ (first - q * second).natAbs * other := Int.mul_le_mul_of_nonneg_left (by omega) (by omega)
    omega
  · have h1 : (first - q * second) * a - (one - q * other) = (first * a - one) - q * (second * a - other) := by grind
    rw [h1]
    exact Int.dvd_sub f (Int.dvd_mul_of_dvd_right s)
theorem invI_end {a m one first second : Int} (hm : 0 < m) (I : InvI a m one 0 first second) : PM.InvOk a m (first % m) := by
  have h1 : one = 1 := by
    have := I.g
    have o0 := I.o0
    simp [Int.gcd] at this
    omega
  refine ⟨Int.emod_nonneg _ (by omega), Int.emod_lt_of_pos _ hm, ?_⟩
  have e := PM.dvd_sub_emod first m
  have f := I.f
  rw [h1] at f
  have h2 : a * (first % m) - 1 = (first * a - 1) + a * (first % m - first) := by grind
  rw [h2]
  exact Int.dvd_add f (Int.dvd_mul_of_dvd_right e)
theorem sc_inverse : FnScope ["number", "modulus", "one", "other", "first", "second", "turns"] ["number", "modulus"] (defScope s_inverse) := ⟨rfl, rfl, rfl, by decide +kernel, rfl, by decide +kernel, by decide +kernel⟩
theorem ok_inverse (T : Txt K mg) : Fn P w K mg base 1 (He.ga K "inverse") spInv := by
  obtain ⟨fd, F⟩ := T.d_inverse
  refine okR F sc_inverse (fun vs H Q E h => ?_) (fun _ _ _ _ _ _ us hl => match us, hl with | [_, _], _ => rfl) (fun cdv A outer s H vs Q E hr h => ⟨_, (pss_cons (ps_asg (pe_tup (pa_cons (pe_op op_mod (pv 0) (pv 1)) (pa_cons (pv 1) (pa_cons pe_int (pa_cons pe_int pa_nil))))) (pg_tup rfl (pgs_cons (pg_name (i := 2) sc_inverse.nd rfl (.inl rfl)) (pgs_cons (pg_name (i := 3) sc_inverse.nd rfl (.inl rfl)) (pgs_cons (pg_name (i := 4) sc_inverse.nd rfl (.inl rfl)) (pgs_cons (pg_name (i := 5) sc_inverse.nd rfl (.inl rfl)) pgs_nil))))))
    (pss_cons (ps_while PassesOwn.never (pt_cmpR op_ne (pv 3) pe_int (nomark _)) (pss_cons (ps_set (i := 6) sc_inverse.nd rfl (.inl rfl) (pe_op op_fdivW (pv 2) (pv 3)))
    (pss_cons (ps_par (i := 2) (j := 3) (by rfl) sc_inverse.nd rfl rfl (by decide) rfl rfl (pa_cons (pv 3) (pa_cons (pe_op op_sub (pv 2) (pe_op op_mulW (pv 6) (pv 3))) pa_nil)) (by rfl))
    (pss_one (ps_par (i := 4) (j := 5) (by rfl) sc_inverse.nd rfl rfl (by decide) rfl rfl (pa_cons (pv 5) (pa_cons (pe_op op_sub (pv 4) (pe_op op_mulW (pv 6) (pv 5))) pa_nil)) (by rfl))))))
    (pss_one (ps_ret (pe_op op_mod (pv 4) (pv 1)))))), ?_⟩)
  · obtain ⟨a, m, rfl, _⟩ := h; rfl
  · obtain ⟨a, m, rfl, hm, hz, hg, q⟩ := h
    refine ⟨_, rfl, _, rfl, _, _, rfl, rfl, hm, _, rfl, (by show 4 ≤ sizeLine; decide), fun p hp => ⟨p, _, rfl, SqT.of upd_same, rfl, _, _, rfl, _, _, rfl, _, _, rfl, _, _, rfl, rfl, ?_⟩⟩
    refine while_by (fun σ H' => Same H H' ∧ ∃ one other first second : Int, ∃ z, σ = [some (.int a), some (.int m), some (.int one), some (.int other), some (.int first), some (.int second), z] ∧ InvI a m one other first second) (fun σ _ => slotN σ 3)
      ⟨same_new hp, _, _, _, _, _, rfl, invI_start hm hg⟩ (fun σ H1 ⟨eH, one, other, first, second, z, eσ, I⟩ => ?_) (fun σ H1 Q1 Q2 hm hc => ?_)
    · subst eσ
      refine ⟨_, rfl, rfl, _, rfl, ite2 (fun h1 => ?_) fun h1 => ?_⟩
      · have h0 : other ≠ 0 := fun z => by rw [z] at h1; exact absurd h1 (by decide)
        have hp2 : 0 < other := by have := I.t0; omega
        have sz1 : Sz 4000 one := hz.small (by have := I.o0; have := I.o1; omega)
        have sz2 : Sz 4000 other := hz.small (by have := I.t0; have := I.t1; omega)
        have sz3 : Sz 4000 second := hz.small I.s1
        have sq : Sz 4000 (one / other) := sz1.ediv hp2
        obtain ⟨J, hl⟩ := invI_step I h0
        refine ⟨_, rfl, _, rfl, _, _, rfl, rfl, sz2.div hp2 (by decide), ?_⟩
        refine ⟨_, rfl, _, rfl, _, rfl, _, rfl, _, _, rfl, rfl, sq.mul sz2 (by decide), _, _, rfl, rfl, _, _, rfl, ?_⟩
        exact ⟨_, rfl, _, rfl, _, rfl, _, rfl, _, _, rfl, rfl, sq.mul sz3 (by decide), _, _, rfl, rfl, _, _, rfl, ⟨eH, _, _, _, _, _, rfl, J⟩, hl⟩
      · have h0 : other = 0 := Classical.byContradiction fun z => h1 (by rw [decide_eq_false (fun e => z (V.int.inj e))]; rfl)
        subst h0
        exact ⟨_, rfl, _, rfl, _, _, rfl, rfl, hm, q _ _ eH (invI_end hm I)⟩
    · obtain ⟨v, e, hs, k, ek, q⟩ := hc
      exact ⟨v, e, hs, k, ek, hm _ _ q⟩
end PP
end
section
set_option maxHeartbeats 4000000
namespace PP
open PySem PySem.Spec PyProof.Rows L2 PR
variable {P : Program} {w : World} {K : PySem.W.Frag} {mg : Str → Option Value} {base : Heap}

/-! ### least_fit -/
def oV : Option Int → V
  | none => .non
  | some i => .int i
def CondAt (K : PySem.W.Frag) (H : Hp) (q : Addr) (c : Int × Int) : Prop := SqT K H q [.int c.1, .int c.2]
theorem same_sqT {H H' : Hp} {a : Addr} {xs : List V} (e : Same H H') (h : SqT K H a xs) : SqT K H' a xs := by
  rcases h with (h | ⟨o, h⟩) | h
  · exact .inl (.inl (e _ _ h))
  · exact .inl (.inr ⟨o, e _ _ h⟩)
  · exact .inr h
def spFit (K : PySem.W.Frag) : Sp := fun vs H Q _ => ∃ (a : Addr) (as : List Addr) (L : List (Int × Int)), vs = [.ref a] ∧ SqL K H a (as.map V.ref) ∧ Paired (CondAt K H) as L ∧ (∀ c ∈ L, Sz 4000 c.2) ∧
  ∀ p H', Same H H' → H p = none → H' p = some (.tup [.int (PM.fit L 0 none).1, oV (PM.fit L 0 none).2]) → Q (.ref p) H'
theorem fit_end (lo : Int) (hi : Option Int) : PM.fit [] lo hi = match hi with | none => (lo, none) | some h => if lo ≤ h then (lo, some h) else (1, some 0) := by
  cases hi <;> rfl
theorem fit_cons (c : Int × Int) (r : List (Int × Int)) (lo : Int) (hi : Option Int) : PM.fit (c :: r) lo hi = if c.2 > 0 then PM.fit r (if -(c.1 / c.2) > lo then -(c.1 / c.2) else lo) hi
    else if c.2 < 0 then PM.fit r lo (some (match hi with
      | none => c.1 / -c.2
      | some h => if c.1 / -c.2 < h then c.1 / -c.2 else h))
    else if c.1 < 0 then (1, some 0) else PM.fit r lo hi := by
  obtain ⟨b, g⟩ := c
  rfl
theorem drop_more {α : Type} {l : List α} {i : Nat} {x : α} (h : l[i]? = some x) : l.drop i = x :: l.drop (i + 1) := by
  obtain ⟨hi, e⟩ := List.getElem?_eq_some_iff.mp h
  rw [← e]
  exact (List.getElem_cons_drop hi).symm
theorem sc_least_fit : FnScope ["conditions", "low", "high", "base", "growth", "bound"] ["conditions"] (defScope s_least_fit) := ⟨rfl, rfl, rfl, by decide +kernel, rfl, by decide +kernel, by decide +kernel⟩
theorem ok_least_fit (T : Txt K mg) : Fn P w K mg base 1 (He.ga K "least_fit") (spFit K) := by
  obtain ⟨fd, F⟩ := T.d_least_fit
  refine okR F sc_least_fit (fun vs H Q E h => ?_) (fun _ _ _ _ _ _ us hl => match us, hl with | [_], _ => rfl) (fun cdv A outer s H vs Q E hr h => ⟨_, (pss_cons (ps_asg (pe_tup (pa_cons pe_int (pa_cons pe_non pa_nil))) (pg_tup rfl (pgs_cons (pg_name (i := 1) sc_least_fit.nd rfl (.inl rfl)) (pgs_cons (pg_name (i := 2) sc_least_fit.nd rfl (.inl rfl)) pgs_nil))))
    (pss_cons (ps_for PassesOwn.never rfl (pi_list (pv 0)) (pg_tup rfl (pgs_cons (pg_name (i := 3) sc_least_fit.nd rfl (.inl rfl)) (pgs_cons (pg_name (i := 4) sc_least_fit.nd rfl (.inl rfl)) pgs_nil))) (pss_one (ps_if (pt_cmpR op_gt (pv 4) pe_int (nomark _)) (pss_one (ps_set (i := 1) sc_least_fit.nd rfl (.inl rfl) (pe_callB (call_max2 rfl) (by rfl) T.f_max (by decide +kernel) (pa_cons (pv 1) (pa_cons (pe_un un_neg (pe_op op_fdivW (pv 3) (pv 4))) pa_nil))))) (pss_one (ps_if (pt_cmpR op_lt (pv 4) pe_int (nomark _)) (pss_cons (ps_set (i := 5) sc_least_fit.nd rfl (.inl rfl) (pe_op op_fdivW (pv 3) (pe_un un_neg (pv 4))))
    (pss_one (ps_set (i := 2) sc_least_fit.nd rfl (.inl rfl) (pe_ifExp (pt_cmpR op_isN (pv 2) pe_non (nomark _)) (pv 5) (pe_callB (call_min2 rfl) (by rfl) T.f_min (by decide +kernel) (pa_cons (pv 2) (pa_cons (pv 5) pa_nil))))))) (pss_one (ps_if (pt_cmpR op_lt (pv 3) pe_int (nomark _)) (pss_one (ps_ret (pe_tup (pa_cons pe_int (pa_cons pe_int pa_nil))))) pss_nil)))))))
    (pss_one (ps_ret (pe_ifExp (PW.pt (pw_or (pt_cmpR op_isN (pv 2) pe_non (nomark _)) (pw_or1 (pt_cmpR op_le (pv 1) (pv 2) (nomark _))))) (pe_tup (pa_cons (pv 1) (pa_cons (pv 2) pa_nil))) (pe_tup (pa_cons pe_int (pa_cons pe_int pa_nil)))))))), ?_⟩)
  · obtain ⟨a, as, L, rfl, _⟩ := h; rfl
  · obtain ⟨a, as, L, rfl, hl, hp, hz, q⟩ := h
    refine ⟨by show 2 ≤ sizeLine; decide, fun p0 hp0 => ⟨p0, _, rfl, SqT.of upd_same, rfl, _, _, rfl, _, _, rfl, rfl, ?_⟩⟩
    have hs0 : Same H (upd H p0 (.tup [.int 0, .non])) := same_new hp0
    refine ⟨_, rfl, a, rfl, ⟨_, hs0.seq hl⟩, ?_⟩
    refine for_list (xs := as.map V.ref) (fun i σ H' => Same H H' ∧ ∃ (lo : Int) (hi : Option Int), ∃ z1 z2 z3, σ = [some (.ref a), some (.int lo), some (oV hi), z1, z2, z3] ∧ PM.fit L 0 none = PM.fit (L.drop i) lo hi)
      ⟨hs0, 0, none, _, _, _, rfl, rfl⟩ (fun i σ H' _ ⟨e, _⟩ => e.seq hl) (fun i x σ H1 hx ⟨eH, lo, hi, z1, z2, z3, eσ, hf⟩ => ?_) (fun σ H1 ⟨eH, lo, hi, z1, z2, z3, eσ, hf⟩ => ?_)
    · subst eσ
      rw [List.getElem?_map] at hx
      obtain ⟨a0, h0, e0⟩ := Option.map_eq_some_iff.mp hx
      obtain ⟨c, hc, hct⟩ := PR.paired_get hp h0
      have hcz := hz c (List.mem_of_getElem? hc)
      subst e0
      rw [drop_more hc, fit_cons] at hf
      refine ⟨a0, _, rfl, same_sqT eH hct, rfl, _, _, rfl, _, _, rfl, rfl, ?_⟩
      refine ⟨_, rfl, _, _, rfl, rfl, _, rfl, ?_⟩
      by_cases hg : c.2 > 0
      · rw [decide_eq_true hg]
        rw [if_pos hg] at hf
        refine iteT ?_
        exact ⟨_, rfl, _, rfl, _, rfl, _, _, rfl, rfl, hcz.div hg (by decide), _, rfl, _, _, rfl, eH, _, _, _, _, _, rfl, hf⟩
      · rw [decide_eq_false hg]
        rw [if_neg hg] at hf
        refine iteF ?_
        refine ⟨_, rfl, _, _, rfl, rfl, _, rfl, ?_⟩
        by_cases hg2 : c.2 < 0
        · rw [decide_eq_true hg2]
          rw [if_pos hg2] at hf
          refine iteT ?_
          have dv : CDivW c.1 (-c.2) := hcz.neg.div (by omega) (by decide)
          refine ⟨_, rfl, _, rfl, _, rfl, _, _, rfl, rfl, dv, _, rfl, rfl, _, rfl, ?_⟩
          cases hi with
          | none => exact ⟨_, rfl, eH, _, _, _, _, _, rfl, hf⟩
          | some h => exact ⟨_, rfl, _, rfl, _, _, rfl, eH, _, _, _, _, _, rfl, hf⟩
        · rw [decide_eq_false hg2]
          rw [if_neg hg2] at hf
          refine iteF ?_
          refine ⟨_, rfl, _, _, rfl, rfl, _, rfl, ?_⟩
          by_cases hb : c.1 < 0
          · rw [decide_eq_true hb]
            rw [if_pos hb] at hf
            refine iteT ⟨by show 2 ≤ sizeLine; decide, fun p hp => ?_⟩
            rw [hf] at q
            exact q p _ (eH.trans (same_new hp)) (eH.free hp) upd_same
          · rw [decide_eq_false hb]
            rw [if_neg hb] at hf
            exact iteF ⟨eH, _, _, _, _, _, rfl, hf⟩
    · subst eσ
      have e : L.drop (as.map V.ref).length = [] := by
        rw [List.length_map, Paired.length hp]
        exact List.drop_length
      rw [e, fit_end] at hf
      cases hi with
      | none =>
        refine ⟨_, rfl, rfl, _, rfl, iteT (iteT ⟨_, rfl, _, rfl, by show 2 ≤ sizeLine; decide, fun p hp => ?_⟩)⟩
        rw [hf] at q
        exact q p _ (eH.trans (same_new hp)) (eH.free hp) upd_same
      | some h =>
        refine ⟨_, rfl, rfl, _, rfl, iteF ⟨_, rfl, _, rfl, _, _, rfl, rfl, _, rfl, ?_⟩⟩
        by_cases hb : lo ≤ h
        · rw [decide_eq_true hb]
          refine iteT ⟨_, rfl, _, rfl, by show 2 ≤ sizeLine; decide, fun p hp => ?_⟩
          rw [hf] at q
          have e2 : (match some h with | none => (lo, none) | some h => if lo ≤ h then (lo, some h) else (1, some 0) : Int × Option Int) = (lo, some h) := if_pos hb
          rw [e2] at q
          exact q p _ (eH.trans (same_new hp)) (eH.free hp) upd_same
        · rw [decide_eq_false hb]
          refine iteF ⟨by show 2 ≤ sizeLine; decide, fun p hp => ?_⟩
          rw [hf] at q
          have e2 : (match some h with | none => (lo, none) | some h => if lo ≤ h then (lo, some h) else (1, some 0) : Int × Option Int) = (1, some 0) := if_neg hb
          rw [e2] at q
          exact q p _ (eH.trans (same_new hp)) (eH.free hp) upd_same
end PP
end
section
set_option maxHeartbeats 4000000
namespace PP
open PySem PySem.Spec PyProof.Rows L2 PR
variable {P : Program} {w : World} {K : PySem.W.Frag} {mg : Str → Option Value} {base : Heap}

/-! ### floor_sum -/
theorem Sz.divp {n : Nat} {i j : Int} (h : 0 < j) (h2 : Sz n j) (hn : n ≤ 8999) : CDivP i j := ⟨h, PyProof.noPylong_of_log2 (h2.div (i := i) h hn).2⟩
theorem div2 {i : Int} : CDivW i 2 := ⟨by decide, by decide⟩
theorem fs_stop {m a b : Int} {n : Nat} (hm : 0 < m) (h : a % m * n + b % m < m) : PM.FS m a b n = a / m * ((n : Int) * ((n : Int) - 1) / 2) + b / m * n := by
  rw [PM.FS_slope hm a b n, PM.FS_offset hm (a % m) b n, PM.FS_zero hm (Int.emod_nonneg _ (by omega)) (Int.emod_nonneg _ (by omega)) n h]
  omega
theorem fs_go {m a b : Int} {n : Nat} (hm : 0 < m) (h : ¬ a % m * n + b % m < m) :
    PM.FS m a b n = a / m * ((n : Int) * ((n : Int) - 1) / 2) + b / m * n + PM.FS (a % m) m ((a % m * n + b % m) % m) ((a % m * n + b % m) / m).toNat ∧ 0 < a % m ∧ 0 ≤ (a % m * n + b % m) / m ∧ (a % m * n + b % m) / m ≤ n := by
  have a0 := Int.emod_nonneg a (show m ≠ 0 by omega)
  have a1 := Int.emod_lt_of_pos a hm
  have b0 := Int.emod_nonneg b (show m ≠ 0 by omega)
  have b1 := Int.emod_lt_of_pos b hm
  have ap : 0 < a % m := by
    by_cases e : a % m = 0
    · rw [e] at h
      omega
    · omega
  refine ⟨?_, ap, Int.ediv_nonneg (by have := Int.mul_nonneg a0 (show (0 : Int) ≤ n by omega); omega) (by omega), ?_⟩
  · rw [PM.FS_slope hm a b n, PM.FS_offset hm (a % m) b n, PM.FS_turn hm ap a1 b0 b1 n]
    omega
  · have h1 : a % m * n ≤ (m - 1) * n := Int.mul_le_mul_of_nonneg_right (by omega) (by omega)
    have h2 : a % m * n + b % m < m * (n + 1) := by
      have h3 : (m - 1) * (n : Int) = m * n - n := by grind
      have h4 : m * ((n : Int) + 1) = m * n + m := by grind
      omega
    have h5 : ((n : Int) + 1) * m = m * ((n : Int) + 1) := Int.mul_comm _ _
    have h6 : a % m * n + b % m < ((n : Int) + 1) * m := by rw [h5]; exact h2
    have := Int.ediv_lt_of_lt_mul hm h6
    omega
def spFloor : Sp := fun vs H Q _ => ∃ (n : Nat) (m a b : Int), vs = [.int n, .int m, .int a, .int b] ∧ 0 < m ∧ Sz 4000 n ∧ Sz 4000 m ∧ Sz 4000 a ∧ Sz 4000 b ∧ ∀ H', Same H H' → Q (.int (PM.FS m a b n)) H'
theorem sc_floor_sum : FnScope ["count", "divisor", "slope", "offset", "total", "turns", "top"] ["count", "divisor", "slope", "offset"] (defScope s_floor_sum) := ⟨rfl, rfl, rfl, by decide +kernel, rfl, by decide +kernel, by decide +kernel⟩
theorem ok_floor_sum (T : Txt K mg) : Fn P w K mg base 1 (He.ga K "floor_sum") spFloor := by
  obtain ⟨fd, F⟩ := T.d_floor_sum
  refine okR F sc_floor_sum (fun vs H Q E h => ?_) (fun _ _ _ _ _ _ us hl => match us, hl with | [_, _, _, _], _ => rfl) (fun cdv A outer s H vs Q E hr h => ⟨_, (pss_cons (ps_set (i := 4) sc_floor_sum.nd rfl (.inl rfl) pe_int)
    (pss_cons (ps_while PassesOwn.never (pt_cmpR op_gt (pv 0) pe_int (nomark _)) (pss_cons (ps_asg (pe_callB call_divmodW (by rfl) T.f_divmod (by decide +kernel) (pa_cons (pv 2) (pa_cons (pv 1) pa_nil))) (pg_tup rfl (pgs_cons (pg_name (i := 5) sc_floor_sum.nd rfl (.inl rfl)) (pgs_cons (pg_name (i := 2) sc_floor_sum.nd rfl (.inl rfl)) pgs_nil))))
    (pss_cons (ps_aug (i := 4) sc_floor_sum.nd rfl (.inl rfl) (pe_op op_mulW (pv 5) (pe_op op_fdivW (pe_op op_mulW (pv 0) (pe_op op_sub (pv 0) pe_int)) pe_int)) ip_add)
    (pss_cons (ps_asg (pe_callB call_divmodW (by rfl) T.f_divmod (by decide +kernel) (pa_cons (pv 3) (pa_cons (pv 1) pa_nil))) (pg_tup rfl (pgs_cons (pg_name (i := 5) sc_floor_sum.nd rfl (.inl rfl)) (pgs_cons (pg_name (i := 3) sc_floor_sum.nd rfl (.inl rfl)) pgs_nil))))
    (pss_cons (ps_aug (i := 4) sc_floor_sum.nd rfl (.inl rfl) (pe_op op_mulW (pv 5) (pv 0)) ip_add)
    (pss_cons (ps_set (i := 6) sc_floor_sum.nd rfl (.inl rfl) (pe_op op_add (pe_op op_mulW (pv 2) (pv 0)) (pv 3)))
    (pss_cons (ps_if (pt_cmpR op_lt (pv 6) (pv 1) (nomark _)) (pss_one (ps_ret (pv 4))) pss_nil)
    (pss_cons (ps_asg (pe_callB call_divmodW (by rfl) T.f_divmod (by decide +kernel) (pa_cons (pv 6) (pa_cons (pv 1) pa_nil))) (pg_tup rfl (pgs_cons (pg_name (i := 0) sc_floor_sum.nd rfl (.inl rfl)) (pgs_cons (pg_name (i := 3) sc_floor_sum.nd rfl (.inl rfl)) pgs_nil))))
    (pss_one (ps_par (i := 1) (j := 2) (by rfl) sc_floor_sum.nd rfl rfl (by decide) rfl rfl (pa_cons (pv 2) (pa_cons (pv 1) pa_nil)) (by rfl)))))))))))
    (pss_one (ps_ret (pv 4))))), ?_⟩)
  · obtain ⟨n, m, a, b, rfl, _⟩ := h; rfl
  · obtain ⟨n, m, a, b, rfl, hm, zn, zm, za, zb, q⟩ := h
    refine while_by (fun σ H' => Same H H' ∧ ∃ (n' : Nat) (m' a' b' t : Int) (z1 z2 : Option V), σ = [some (.int n'), some (.int m'), some (.int a'), some (.int b'), some (.int t), z1, z2] ∧ 0 < m' ∧ Sz 4000 n' ∧ Sz 4000 m' ∧ Sz 4000 a' ∧ Sz 4000 b' ∧ PM.FS m a b n = t + PM.FS m' a' b' n') (fun σ _ => slotN σ 1)
      ⟨Same.refl H, n, m, a, b, 0, _, _, rfl, hm, zn, zm, za, zb, by omega⟩ (fun σ H1 ⟨eH, n', m', a', b', t, z1, z2, eσ, hm', zn', zm', za', zb', hf⟩ => ?_) (fun σ H1 Q1 Q2 hm hc => ?_)
    · subst eσ
      refine ⟨_, rfl, _, _, rfl, rfl, _, rfl, ?_⟩
      by_cases hn : (n' : Int) > 0
      · rw [decide_eq_true hn]
        refine iteT ?_
        have a0 := Int.emod_nonneg a' (show m' ≠ 0 by omega)
        have a1 := Int.emod_lt_of_pos a' hm'
        have b0 := Int.emod_nonneg b' (show m' ≠ 0 by omega)
        have b1 := Int.emod_lt_of_pos b' hm'
        have zn1 : Sz 4000 ((n' : Int) - 1) := zn'.small (by omega)
        have zt : Sz 8000 ((n' : Int) * ((n' : Int) - 1) / 2) := (zn'.times zn1).ediv (by decide)
        refine ⟨_, rfl, _, rfl, _, _, rfl, zm'.divp hm' (by decide), fun p1 hp1 => ⟨p1, _, rfl, SqT.of upd_same, rfl, _, _, rfl, _, _, rfl, rfl, ?_⟩⟩
        have e1 : Same H _ := eH.trans (same_new (o := .tup [.int (a' / m'), .int (a' % m')]) hp1)
        refine ⟨_, rfl, _, rfl, _, rfl, _, rfl, _, _, rfl, rfl, _, _, rfl, rfl, zn'.mul zn1 (by decide), _, _, rfl, rfl, div2, _, _, rfl, rfl, (za'.ediv hm').mul zt (by decide), _, _, rfl, rfl, ?_⟩
        refine ⟨_, rfl, _, rfl, _, _, rfl, zm'.divp hm' (by decide), fun p2 hp2 => ⟨p2, _, rfl, SqT.of upd_same, rfl, _, _, rfl, _, _, rfl, rfl, ?_⟩⟩
        have e2 := e1.trans (same_new (o := .tup [.int (b' / m'), .int (b' % m')]) hp2)
        refine ⟨_, rfl, _, rfl, _, rfl, _, _, rfl, rfl, (zb'.ediv hm').mul zn' (by decide), _, _, rfl, rfl, ?_⟩
        refine ⟨_, rfl, _, rfl, _, _, rfl, rfl, (zm'.emod hm').mul zn' (by decide), _, rfl, _, _, rfl, rfl, ?_⟩
        refine ⟨_, rfl, _, rfl, _, _, rfl, rfl, _, rfl, ?_⟩
        by_cases hlt : a' % m' * n' + b' % m' < m'
        · rw [decide_eq_true hlt]
          refine iteT ⟨_, rfl, ?_⟩
          rw [hf, fs_stop hm' hlt] at q
          have e : t + a' / m' * ((n' : Int) * ((n' : Int) - 1) / 2) + b' / m' * n' = t + (a' / m' * ((n' : Int) * ((n' : Int) - 1) / 2) + b' / m' * n') := by omega
          rw [← e] at q
          exact q _ e2
        · rw [decide_eq_false hlt]
          refine iteF ?_
          obtain ⟨g1, g2, g3, g4⟩ := fs_go (b := b') hm' hlt
          refine ⟨_, rfl, _, rfl, _, _, rfl, zm'.divp hm' (by decide), fun p3 hp3 => ⟨p3, _, rfl, SqT.of upd_same, rfl, _, _, rfl, _, _, rfl, rfl, ?_⟩⟩
          have e3 := e2.trans (same_new (o := .tup [.int ((a' % m' * n' + b' % m') / m'), .int ((a' % m' * n' + b' % m') % m')]) hp3)
          have en : (((a' % m' * n' + b' % m') / m').toNat : Int) = (a' % m' * n' + b' % m') / m' := by omega
          refine ⟨_, rfl, _, rfl, _, _, rfl, ⟨e3, ((a' % m' * n' + b' % m') / m').toNat, a' % m', m', (a' % m' * n' + b' % m') % m', t + a' / m' * ((n' : Int) * ((n' : Int) - 1) / 2) + b' / m' * n', _, _, by rw [en]; rfl, g2, by rw [en]; exact zn'.small (by omega), zm'.emod hm', zm', zm'.emod hm', by rw [hf, g1]; omega⟩, ?_⟩
          show (a' % m').natAbs < m'.natAbs
          omega
      · rw [decide_eq_false hn]
        refine iteF ⟨_, rfl, ?_⟩
        have e : n' = 0 := by omega
        subst e
        have e2 : PM.FS m' a' b' 0 = 0 := rfl
        rw [hf, e2, Int.add_zero] at q
        exact q _ eH
    · obtain ⟨v, e, i, j, e1, e2, k, ek, q⟩ := hc
      exact ⟨v, e, i, j, e1, e2, k, ek, hm _ _ q⟩
/-! ### remainders_below, ceiling -/
def spBelow : Sp := fun vs H Q _ => ∃ (n : Nat) (m a b c : Int), vs = [.int n, .int m, .int a, .int b, .int c] ∧ 0 < m ∧ Sz 3000 n ∧ Sz 3000 m ∧ Sz 3000 a ∧ Sz 3000 b ∧ Sz 3000 c ∧ ∀ H', Same H H' → Q (.int (PM.FS m a b n - PM.FS m a (b - c) n)) H'
theorem sc_remainders_below : FnScope ["count", "divisor", "slope", "offset", "width"] ["count", "divisor", "slope", "offset", "width"] (defScope s_remainders_below) := ⟨rfl, rfl, rfl, by decide +kernel, rfl, by decide +kernel, by decide +kernel⟩
theorem ok_remainders_below (T : Txt K mg) : Fn P w K mg base 2 (He.ga K "remainders_below") spBelow := by
  obtain ⟨fd, F⟩ := T.d_remainders_below
  have G_floor_sum := ok_floor_sum (P := P) (w := w) (base := base) T
  refine okR F sc_remainders_below (fun vs H Q E h => ?_) (fun _ _ _ _ _ _ us hl => match us, hl with | [_, _, _, _, _], _ => rfl) (fun cdv A outer s H vs Q E hr h => ⟨_, (pss_one (ps_ret (pe_op op_sub (pe_callR G_floor_sum (hr.mono (by decide)) T.g_floor_sum (T.d_floor_sum.elim fun _ F => F.kp) (pa_cons (pv 0) (pa_cons (pv 1) (pa_cons (pv 2) (pa_cons (pv 3) pa_nil))))) (pe_callR G_floor_sum (hr.mono (by decide)) T.g_floor_sum (T.d_floor_sum.elim fun _ F => F.kp) (pa_cons (pv 0) (pa_cons (pv 1) (pa_cons (pv 2) (pa_cons (pe_op op_sub (pv 3) (pv 4)) pa_nil)))))))), ?_⟩)
  · obtain ⟨n, m, a, b, c, rfl, _⟩ := h; rfl
  · obtain ⟨n, m, a, b, c, rfl, hm, zn, zm, za, zb, zc, q⟩ := h
    refine ⟨_, rfl, _, rfl, _, rfl, _, rfl, n, m, a, b, rfl, hm, zn.mono (by decide), zm.mono (by decide), za.mono (by decide), zb.mono (by decide), fun H1 e1 => ?_⟩
    refine ⟨_, rfl, _, rfl, _, rfl, _, rfl, _, rfl, _, _, rfl, rfl, n, m, a, b - c, rfl, hm, zn.mono (by decide), zm.mono (by decide), za.mono (by decide), (zb.sub zc).mono (by decide), fun H2 e2 => ?_⟩
    exact ⟨_, _, rfl, rfl, q H2 (e1.trans e2)⟩
def spCeil : Sp := fun vs H Q _ => ∃ a b : Int, vs = [.int a, .int b] ∧ 0 < b ∧ Sz 4000 b ∧ Q (.int (PM.ceilI a b)) H
theorem sc_ceiling : FnScope ["number", "divisor"] ["number", "divisor"] (defScope s_ceiling) := ⟨rfl, rfl, rfl, by decide +kernel, rfl, by decide +kernel, by decide +kernel⟩
theorem ok_ceiling (T : Txt K mg) : Fn P w K mg base 1 (He.ga K "ceiling") spCeil := by
  obtain ⟨fd, F⟩ := T.d_ceiling
  refine okR F sc_ceiling (fun vs H Q E h => ?_) (fun _ _ _ _ _ _ us hl => match us, hl with | [_, _], _ => rfl) (fun cdv A outer s H vs Q E hr h => ⟨_, (pss_one (ps_ret (pe_un un_neg (pe_op op_fdivW (pe_un un_neg (pv 0)) (pv 1))))), ?_⟩)
  · obtain ⟨a, b, rfl, _⟩ := h; rfl
  · obtain ⟨a, b, rfl, hb, zb, q⟩ := h
    exact ⟨_, rfl, _, rfl, _, rfl, _, _, rfl, rfl, zb.div hb (by decide), _, rfl, q⟩
end PP
end
section
set_option maxHeartbeats 4000000
namespace PP
open PySem PySem.Spec PyProof.Rows L2 PR
variable {P : Program} {w : World} {K : PySem.W.Frag} {mg : Str → Option Value} {base : Heap}

/-! ### heaps: all but one object stand -/
def But (x : Addr) (H H' : Hp) : Prop := ∀ b o, H b = some o → b ≠ x → H' b = some o
theorem But.of {x : Addr} {H H' : Hp} (e : Same H H') : But x H H' := fun b o h _ => e b o h
theorem But.upd {x : Addr} {H H' : Hp} {o : HO} (e : But x H H') : But x H (upd H' x o) := fun b ob h n => (upd_ne n).trans (e b ob h n)
theorem But.same {x : Addr} {H H1 H2 : Hp} (e : But x H H1) (f : Same H1 H2) : But x H H2 := fun b o h n => f b o (e b o h n)
theorem But.trans {x : Addr} {H H1 H2 : Hp} (e : But x H H1) (f : But x H1 H2) : But x H H2 := fun b o h n => f b o (e b o h n) n
theorem But.sqT {x C dx : Addr} {fs : List (Str × V)} {H H' : Hp} {a : Addr} {xs : List V} (e : But x H H') (hx : H x = some (.ins C dx fs)) (h : SqT K H a xs) : SqT K H' a xs := by
  rcases h with (h | ⟨o, h⟩) | h
  · exact .inl (.inl (e _ _ h (ne_of h hx (by intro z; cases z))))
  · exact .inl (.inr ⟨o, e _ _ h (ne_of h hx (by intro z; cases z))⟩)
  · exact .inr h
theorem But.sqL {x C dx : Addr} {fs : List (Str × V)} {H H' : Hp} {a : Addr} {xs : List V} (e : But x H H') (hx : H x = some (.ins C dx fs)) (h : SqL K H a xs) : SqL K H' a xs := by
  rcases h with (h | ⟨o, h⟩) | h
  · exact .inl (.inl (e _ _ h (ne_of h hx (by intro z; cases z))))
  · exact .inl (.inr ⟨o, e _ _ h (ne_of h hx (by intro z; cases z))⟩)
  · exact .inr h
/-! ### Crossing.__init__ -/
abbrev Fl := List (Str × V)
def crF (t1 t2 : Addr) (em : Bool) (step ostep start ostart : Int) : Fl := [("one", .ref t1), ("other", .ref t2), ("is_empty", .bl em), ("step", .int step), ("other_step", .int ostep), ("start", .int start), ("other_start", .int ostart)]
def wayV (d x s : Int) : List V := [.int d, .int x, .int s]
/-- a crossing of the fence -/
def CrAt (K : PySem.W.Frag) (H : Hp) (a : Addr) (d1 x1 s1 d2 x2 s2 : Int) : Prop := ∃ dx t1 t2 em step ostep start ostart, H a = some (.ins (He.ga K "Crossing") dx (crF t1 t2 em step ostep start ostart)) ∧ SqT K H t1 (wayV d1 x1 s1) ∧ SqT K H t2 (wayV d2 x2 s2) ∧
  PM.CrOk x1 s1 x2 s2 em step ostep start ostart ∧ Sz 1000 d1 ∧ Sz 1000 d2 ∧ Sz 2500 step ∧ Sz 2500 ostep ∧ Sz 2500 start ∧ Sz 2500 ostart
theorem CrAt.same {H H' : Hp} {a : Addr} {d1 x1 s1 d2 x2 s2 : Int} (e : Same H H') (h : CrAt K H a d1 x1 s1 d2 x2 s2) : CrAt K H' a d1 x1 s1 d2 x2 s2 := by
  obtain ⟨dx, t1, t2, em, step, ostep, start, ostart, h1, h2, h3, h4⟩ := h
  exact ⟨dx, t1, t2, em, step, ostep, start, ostart, e _ _ h1, same_sqT e h2, same_sqT e h3, h4⟩
/-- what a painter's way tells -/
structure WayOk (d x s : Int) : Prop where
  zd : Sz 1000 d
  zx : Sz 1000 x
  zs : Sz 1000 s
  ne : s ≠ 0
def spCrI (K : PySem.W.Frag) : Sp := fun vs H Q _ => ∃ (x dx t1 t2 : Addr) (d1 x1 s1 d2 x2 s2 : Int), vs = [.ref x, .ref t1, .ref t2] ∧ H x = some (.ins (He.ga K "Crossing") dx []) ∧ SqT K H t1 (wayV d1 x1 s1) ∧ SqT K H t2 (wayV d2 x2 s2) ∧
  WayOk d1 x1 s1 ∧ WayOk d2 x2 s2 ∧ ∀ H', But x H H' → CrAt K H' x d1 x1 s1 d2 x2 s2 → Q .non H'
theorem cop {a b g : Int} (hg : g = ((Int.gcd a b : Nat) : Int)) (g0 : 0 < g) : Int.gcd (a / g) (b / g) = 1 := by
  have d1 : g ∣ a := by rw [hg]; exact Int.gcd_dvd_left _ _
  have d2 : g ∣ b := by rw [hg]; exact Int.gcd_dvd_right _ _
  have e1 : ((Int.gcd (a / g) (b / g) : Nat) : Int) ∣ a / g := Int.gcd_dvd_left _ _
  have e2 : ((Int.gcd (a / g) (b / g) : Nat) : Int) ∣ b / g := Int.gcd_dvd_right _ _
  generalize hd : Int.gcd (a / g) (b / g) = d at *
  have f1 : (d : Int) * g ∣ a := by
    obtain ⟨u, hu⟩ := e1
    exact ⟨u, by have := Int.ediv_mul_cancel d1; rw [hu] at this; rw [← this]; grind⟩
  have f2 : (d : Int) * g ∣ b := by
    obtain ⟨u, hu⟩ := e2
    exact ⟨u, by have := Int.ediv_mul_cancel d2; rw [hu] at this; rw [← this]; grind⟩
  have f3 : (d : Int) * g ∣ g := by
    have := Int.dvd_coe_gcd f1 f2
    rw [← hg] at this
    exact this
  obtain ⟨u, hu⟩ := f3
  have h1 : (d : Int) * u = 1 := by
    have : g * (d * u) = g * 1 := by rw [Int.mul_one]; grind
    exact Int.eq_of_mul_eq_mul_left (by omega) this
  have h2 : (d : Int) ∣ 1 := ⟨u, h1.symm⟩
  have h3 := Int.natAbs_dvd_natAbs.mpr h2
  simp at h3
  exact h3
theorem ne0_bl {r : Int} : (!decide (V.int r = V.int 0)) = decide (r ≠ 0) := by
  by_cases h : r = 0
  · subst h; rfl
  · rw [decide_eq_true h, decide_eq_false (fun e => h (V.int.inj e))]; rfl
theorem Sz.fdiv {n : Nat} {i j : Int} (h1 : Sz n i) (hj : j ≠ 0) : Sz (n + 1) (i.fdiv j) := by
  have key : (i.fdiv j).natAbs ≤ i.natAbs + 1 := by
    have a1 := Int.mul_fdiv_add_fmod i j
    rcases Int.lt_or_gt_of_ne hj with hn | hp
    · have e : i.fdiv j = (-i) / (-j) := by rw [← Int.neg_fdiv_neg, Int.fdiv_eq_ediv_of_nonneg _ (by omega)]
      rw [e]
      have b : ∀ k l : Int, 0 < l → (k / l).natAbs ≤ k.natAbs := fun k l hl => by
        by_cases c : 0 ≤ k
        · have b1 : 0 ≤ k / l := Int.ediv_nonneg c (by omega)
          have b2 : k / l ≤ k := Int.ediv_le_self l c
          omega
        · have b1 : k / l < 0 := Int.ediv_neg_of_neg_of_pos (by omega) hl
          have b2 : k ≤ k / l := (Int.le_ediv_iff_mul_le hl).mpr (by
            have := Int.mul_le_mul_of_nonpos_left (show k ≤ 0 by omega) (show 1 ≤ l by omega)
            omega)
          omega
      have := b (-i) (-j) (by omega)
      omega
    · rw [Int.fdiv_eq_ediv_of_nonneg _ (by omega)]
      by_cases c : 0 ≤ i
      · have b1 : 0 ≤ i / j := Int.ediv_nonneg c (by omega)
        have b2 : i / j ≤ i := Int.ediv_le_self j c
        omega
      · have b1 : i / j < 0 := Int.ediv_neg_of_neg_of_pos (by omega) hp
        have b2 : i ≤ i / j := (Int.le_ediv_iff_mul_le hp).mpr (by
          have := Int.mul_le_mul_of_nonpos_left (show i ≤ 0 by omega) (show 1 ≤ j by omega)
          omega)
        omega
  unfold Sz at *
  rw [Nat.pow_succ]
  omega
theorem divS {n : Nat} {i j : Int} (h : j ≠ 0) (h2 : Sz n j) (hn : n ≤ 8999) : CDivS i j := by
  refine ⟨h, ?_⟩
  have h3 : CDivW i ((j.natAbs : Nat) : Int) := Sz.div (by omega) (h2.small (by simp)) hn
  have h4 := h3.2
  rw [show ((j.natAbs : Nat) : Int).natAbs = j.natAbs by simp] at h4
  exact h4
theorem sc_Crossing_init : FnScope ["self", "one", "other", "stride", "other_stride", "divisor", "gap", "rest"] ["self", "one", "other"] (defScope s_Crossing_init) := ⟨rfl, rfl, rfl, by decide +kernel, rfl, by decide +kernel, by decide +kernel⟩
theorem ok_Crossing_init (T : Txt K mg) : Fn P w K mg base 2 (He.ma K (He.ga K "Crossing") "__init__") (spCrI K) := by
  obtain ⟨fd, F⟩ := T.d_Crossing_init
  have G_inverse := ok_inverse (P := P) (w := w) (base := base) T
  have G_greatest_divisor := ok_greatest_divisor (P := P) (w := w) (base := base) T
  refine okR F sc_Crossing_init (fun vs H Q E h => ?_) (fun _ _ _ _ _ _ us hl => match us, hl with | [_, _, _], _ => rfl) (fun cdv A outer s H vs Q E hr h => ⟨_, (pss_cons (ps_par (i := 3) (j := 4) (by rfl) sc_Crossing_init.nd rfl rfl (by decide) rfl rfl (pa_cons (pe_ix ix_tup (pv 1) pe_int (fun _ _ => rfl)) (pa_cons (pe_ix ix_tup (pv 2) pe_int (fun _ _ => rfl)) pa_nil)) (by rfl))
    (pss_cons (ps_set (i := 5) sc_Crossing_init.nd rfl (.inl rfl) (pe_callR G_greatest_divisor (hr.mono (by decide)) T.g_greatest_divisor (T.d_greatest_divisor.elim fun _ F => F.kp) (pa_cons (pv 3) (pa_cons (pv 4) pa_nil))))
    (pss_cons (ps_asg (pe_callB call_divmodW (by rfl) T.f_divmod (by decide +kernel) (pa_cons (pe_op op_sub (pe_ix ix_tup (pv 2) pe_int (fun _ _ => rfl)) (pe_ix ix_tup (pv 1) pe_int (fun _ _ => rfl))) (pa_cons (pv 5) pa_nil))) (pg_tup rfl (pgs_cons (pg_name (i := 6) sc_Crossing_init.nd rfl (.inl rfl)) (pgs_cons (pg_name (i := 7) sc_Crossing_init.nd rfl (.inl rfl)) pgs_nil))))
    (pss_cons (ps_fld (pv 0) (pv 1) rfl)
    (pss_cons (ps_fld (pv 0) (pv 2) rfl)
    (pss_cons (ps_fld (pv 0) (pe_cmpR op_ne (pv 7) pe_int (nomark _)) rfl)
    (pss_cons (ps_fld (pv 0) (pe_op op_fdivW (pe_callB call_abs (by rfl) T.f_abs (by decide +kernel) (pa_cons (pv 4) pa_nil)) (pv 5)) rfl)
    (pss_cons (ps_fld (pv 0) (pe_ifExp (pt_cmpR op_gt (pv 4) pe_int (nomark _)) (pe_op op_fdivW (pv 3) (pv 5)) (pe_un un_neg (pe_op op_fdivW (pv 3) (pv 5)))) rfl)
    (pss_cons (ps_fld (pv 0) (pe_op op_mod (pe_op op_mulW (pv 6) (pe_callR G_inverse (hr.mono (by decide)) T.g_inverse (T.d_inverse.elim fun _ F => F.kp) (pa_cons (pe_op op_fdivW (pv 3) (pv 5)) (pa_cons (pe_fld (pv 0) rfl) pa_nil)))) (pe_fld (pv 0) rfl)) rfl)
    (pss_one (ps_fld (pv 0) (pe_op op_fdivS (pe_op op_sub (pe_op op_add (pe_ix ix_tup (pv 1) pe_int (fun _ _ => rfl)) (pe_op op_mulW (pe_fld (pv 0) rfl) (pv 3))) (pe_ix ix_tup (pv 2) pe_int (fun _ _ => rfl))) (pv 4)) rfl))))))))))), ?_⟩)
  · obtain ⟨x, dx, t1, t2, d1, x1, s1, d2, x2, s2, rfl, _⟩ := h; rfl
  · obtain ⟨x, dx, t1, t2, d1, x1, s1, d2, x2, s2, rfl, hx, h1, h2, w1, w2, q⟩ := h
    have g0 : 0 < ((Int.gcd s1 s2 : Nat) : Int) := PM.gcd_pos_l w1.ne
    generalize hg : ((Int.gcd s1 s2 : Nat) : Int) = g at g0
    have hga : g = ((Int.gcd s1 (PM.absI s2) : Nat) : Int) := by
      rw [← hg]
      unfold PM.absI
      split <;> simp
    have hzg : Sz 1000 g := w1.zs.small (by
      have a1 : g ∣ s1 := by rw [← hg]; exact Int.gcd_dvd_left _ _
      have a2 := Nat.le_of_dvd (by have := w1.ne; omega) (Int.natAbs_dvd_natAbs.mpr a1)
      exact a2)
    have ha : 0 < PM.absI s2 := by
      have := w2.ne
      unfold PM.absI
      split <;> omega
    have zabs : Sz 1000 (PM.absI s2) := w2.zs.small (by unfold PM.absI; split <;> omega)
    have dv : g ∣ PM.absI s2 := by rw [hga]; exact Int.gcd_dvd_right _ _
    have hst : 0 < PM.absI s2 / g := Int.ediv_pos_of_pos_of_dvd ha (by omega) dv
    have zst : Sz 1000 (PM.absI s2 / g) := zabs.ediv g0
    refine ⟨_, rfl, t1, _, _, _, rfl, rfl, h1, rfl, _, rfl, t2, _, _, _, rfl, rfl, h2, rfl, _, _, rfl, ?_⟩
    refine ⟨_, rfl, _, rfl, _, _, rfl, ?_⟩
    rw [hg]
    refine ⟨_, rfl, t2, _, _, _, rfl, rfl, h2, rfl, _, rfl, t1, _, _, _, rfl, rfl, h1, rfl, _, _, rfl, rfl, _, rfl, _, _, rfl, hzg.divp g0 (by decide), fun p hp => ⟨p, _, rfl, SqT.of upd_same, rfl, _, _, rfl, _, _, rfl, rfl, ?_⟩⟩
    have b1 : But x H (upd H p (.tup [.int ((x2 - x1) / g), .int ((x2 - x1) % g)])) := .of (same_new hp)
    have hx1 : (upd H p (.tup [.int ((x2 - x1) / g), .int ((x2 - x1) % g)])) x = some (.ins (He.ga K "Crossing") dx []) := same_new hp _ _ hx
    have C : ∀ t o, PM.InvOk (s1 / g) (PM.absI s2 / g) t → (s2 ∣ x1 + (((x2 - x1) / g) * t % (PM.absI s2 / g)) * s1 - x2 → o * s2 = x1 + (((x2 - x1) / g) * t % (PM.absI s2 / g)) * s1 - x2) →
        PM.CrOk x1 s1 x2 s2 (decide ((x2 - x1) % g ≠ 0)) (PM.absI s2 / g) (if s2 > 0 then s1 / g else -(s1 / g)) (((x2 - x1) / g) * t % (PM.absI s2 / g)) o := fun t o hi ho => PM.cross_ok w1.ne w2.ne hg.symm hi ho
    have hcop : Int.gcd (s1 / g) (PM.absI s2 / g) = 1 := cop hga g0
    have zgap : Sz 1001 ((x2 - x1) / g) := (w2.zx.sub w1.zx).ediv g0
    refine ⟨_, rfl, _, rfl, x, _, dx, _, rfl, hx1, T.c_Crossing, T.a_Crossing_one, (by decide : (0 : Nat) < 1000), ?_⟩
    refine ⟨_, rfl, _, rfl, x, _, dx, _, rfl, upd_same, T.c_Crossing, T.a_Crossing_other, (by decide : (1 : Nat) < 1000), ?_⟩
    refine ⟨_, rfl, rfl, _, rfl, x, _, dx, _, rfl, upd_same, T.c_Crossing, T.a_Crossing_is_empty, (by decide : (2 : Nat) < 1000), ?_⟩
    rw [ne0_bl]
    refine ⟨_, rfl, _, rfl, _, rfl, _, _, rfl, rfl, hzg.div g0 (by decide), _, rfl, x, _, dx, _, rfl, upd_same, T.c_Crossing, T.a_Crossing_step, (by decide : (3 : Nat) < 1000), ?_⟩
    have b5 := (((b1.upd (o := .ins (He.ga K "Crossing") dx [("one", .ref t1)])).upd (o := .ins (He.ga K "Crossing") dx [("one", .ref t1), ("other", .ref t2)])).upd (o := .ins (He.ga K "Crossing") dx [("one", .ref t1), ("other", .ref t2), ("is_empty", .bl (decide ((x2 - x1) % g ≠ 0)))])).upd (o := .ins (He.ga K "Crossing") dx [("one", .ref t1), ("other", .ref t2), ("is_empty", .bl (decide ((x2 - x1) % g ≠ 0))), ("step", .int (PM.absI s2 / g))])
    refine ⟨_, rfl, _, _, rfl, rfl, _, rfl, ?_⟩
    refine ite2 (fun hs => ?_) fun hs => ?_
    · have hs2 : s2 > 0 := of_decide_eq_true hs
      simp only [if_pos hs2] at C
      refine ⟨_, rfl, _, rfl, _, _, rfl, rfl, hzg.div g0 (by decide), _, rfl, x, _, dx, _, rfl, upd_same, T.c_Crossing, T.a_Crossing_other_step, (by decide : (4 : Nat) < 1000), ?_⟩
      refine ⟨_, rfl, _, rfl, _, rfl, _, _, rfl, rfl, hzg.div g0 (by decide), _, rfl, x, _, dx, _, _, rfl, upd_same, T.c_Crossing, T.a_Crossing_step, rfl, ?_⟩
      refine ⟨s1 / g, PM.absI s2 / g, rfl, hst, zst.mono (by decide), hcop, fun t H2 e2 hi => ?_⟩
      have zt : Sz 1000 t := zst.small (by have := hi.1; have := hi.2.1; omega)
      have zs := (zst.emod hst (i := (x2 - x1) / g * t))
      refine ⟨_, _, rfl, rfl, zgap.mul zt (by decide), _, rfl, x, _, dx, _, _, rfl, e2 _ _ upd_same, T.c_Crossing, T.a_Crossing_step, rfl, _, _, rfl, rfl, hst, _, rfl, x, _, dx, _, rfl, e2 _ _ upd_same, T.c_Crossing, T.a_Crossing_start, (by decide : (5 : Nat) < 1000), ?_⟩
      have b7 : ∀ o, But x H (upd H2 x o) := fun o => (b5.upd.same e2).upd
      refine ⟨_, rfl, t1, _, _, _, rfl, rfl, (b7 _).sqT hx h1, rfl, _, rfl, x, _, dx, _, _, rfl, upd_same, T.c_Crossing, T.a_Crossing_start, rfl, _, rfl, _, _, rfl, rfl, zs.mul w1.zs (by decide), _, _, rfl, rfl, _, rfl, t2, _, _, _, rfl, rfl, (b7 _).sqT hx h2, rfl, _, _, rfl, rfl, _, rfl, _, _, rfl, rfl, divS w2.ne w2.zs (by decide), _, rfl, x, _, dx, _, rfl, upd_same, T.c_Crossing, T.a_Crossing_other_start, (by decide : (6 : Nat) < 1000), ?_⟩
      have b8 : ∀ o o', But x H (upd (upd H2 x o) x o') := fun o o' => (b7 o).upd
      have zX : Sz 2400 (x1 + (x2 - x1) / g * t % (PM.absI s2 / g) * s1 - x2) := (((w1.zx.mono (by decide : 1000 ≤ 2000)).add (zs.times w1.zs)).sub (w2.zx.mono (by decide : 1000 ≤ 2001))).mono (by decide)
      refine q _ (b8 _ _) ⟨dx, t1, t2, _, _, _, _, _, upd_same, (b8 _ _).sqT hx h1, (b8 _ _).sqT hx h2, C t _ hi (fun hd => Int.fdiv_mul_cancel hd), w1.zd, w2.zd, zst.mono (by decide), (w1.zs.ediv g0).mono (by decide), zs.mono (by decide), (zX.fdiv w2.ne).mono (by decide)⟩
    · have hs2 : ¬ s2 > 0 := fun z => hs (decide_eq_true z)
      simp only [if_neg hs2] at C
      refine ⟨_, rfl, _, rfl, _, _, rfl, rfl, hzg.div g0 (by decide), _, rfl, _, rfl, x, _, dx, _, rfl, upd_same, T.c_Crossing, T.a_Crossing_other_step, (by decide : (4 : Nat) < 1000), ?_⟩
      refine ⟨_, rfl, _, rfl, _, rfl, _, _, rfl, rfl, hzg.div g0 (by decide), _, rfl, x, _, dx, _, _, rfl, upd_same, T.c_Crossing, T.a_Crossing_step, rfl, ?_⟩
      refine ⟨s1 / g, PM.absI s2 / g, rfl, hst, zst.mono (by decide), hcop, fun t H2 e2 hi => ?_⟩
      have zt : Sz 1000 t := zst.small (by have := hi.1; have := hi.2.1; omega)
      have zs := (zst.emod hst (i := (x2 - x1) / g * t))
      refine ⟨_, _, rfl, rfl, zgap.mul zt (by decide), _, rfl, x, _, dx, _, _, rfl, e2 _ _ upd_same, T.c_Crossing, T.a_Crossing_step, rfl, _, _, rfl, rfl, hst, _, rfl, x, _, dx, _, rfl, e2 _ _ upd_same, T.c_Crossing, T.a_Crossing_start, (by decide : (5 : Nat) < 1000), ?_⟩
      have b7 : ∀ o, But x H (upd H2 x o) := fun o => (b5.upd.same e2).upd
      refine ⟨_, rfl, t1, _, _, _, rfl, rfl, (b7 _).sqT hx h1, rfl, _, rfl, x, _, dx, _, _, rfl, upd_same, T.c_Crossing, T.a_Crossing_start, rfl, _, rfl, _, _, rfl, rfl, zs.mul w1.zs (by decide), _, _, rfl, rfl, _, rfl, t2, _, _, _, rfl, rfl, (b7 _).sqT hx h2, rfl, _, _, rfl, rfl, _, rfl, _, _, rfl, rfl, divS w2.ne w2.zs (by decide), _, rfl, x, _, dx, _, rfl, upd_same, T.c_Crossing, T.a_Crossing_other_start, (by decide : (6 : Nat) < 1000), ?_⟩
      have b8 : ∀ o o', But x H (upd (upd H2 x o) x o') := fun o o' => (b7 o).upd
      have zX : Sz 2400 (x1 + (x2 - x1) / g * t % (PM.absI s2 / g) * s1 - x2) := (((w1.zx.mono (by decide : 1000 ≤ 2000)).add (zs.times w1.zs)).sub (w2.zx.mono (by decide : 1000 ≤ 2001))).mono (by decide)
      refine q _ (b8 _ _) ⟨dx, t1, t2, _, _, _, _, _, upd_same, (b8 _ _).sqT hx h1, (b8 _ _).sqT hx h2, C t _ hi (fun hd => Int.fdiv_mul_cancel hd), w1.zd, w2.zd, zst.mono (by decide), (w1.zs.ediv g0).neg.mono (by decide), zs.mono (by decide), (zX.fdiv w2.ne).mono (by decide)⟩
end PP
end
section
set_option maxHeartbeats 4000000
namespace PP
open PySem PySem.Spec PyProof.Rows L2 PR
variable {P : Program} {w : World} {K : PySem.W.Frag} {mg : Str → Option Value} {base : Heap}

theorem same_put {H H1 : Hp} {p : Addr} {o : HO} (e : Same H H1) (h : H p = none) : Same H (upd H1 p o) := fun b ob q => (upd_ne (ne_of_none q h)).trans (e b ob q)
theorem Sz.big {n : Nat} {i : Int} (h : Sz n i) (m : Nat) (hm : n ≤ m := by decide) : Sz m i := h.mono hm
theorem fit_sz {n : Nat} : ∀ (L : List (Int × Int)) (lo : Int) (hi : Option Int), (∀ c ∈ L, Sz n c.1) → Sz n lo → Sz (n + 1) (PM.fit L lo hi).1
  | [], lo, none, _, h => h.mono (Nat.le_succ n)
  | [], lo, some b, _, h => by
    unfold PM.fit
    split
    · exact h.mono (Nat.le_succ n)
    · exact Sz.one n
  | (b, g) :: r, lo, hi, hL, h => by
    have hb : Sz n b := hL (b, g) (List.mem_cons_self ..)
    have hr : ∀ c ∈ r, Sz n c.1 := fun c hc => hL c (List.mem_cons_of_mem _ hc)
    unfold PM.fit
    split
    · rename_i hg
      refine fit_sz r _ hi hr ?_
      split
      · exact (hb.ediv hg).neg
      · exact h
    · split
      · exact fit_sz r lo _ hr h
      · split
        · exact Sz.one n
        · exact fit_sz r lo hi hr h
/-! ### Crossing.number, bounds, first_block -/
def spNum (K : PySem.W.Frag) : Sp := fun vs H Q _ => ∃ (a dx t1 t2 : Addr) (em : Bool) (step ostep start ostart m : Int), vs = [.ref a, .int m] ∧ H a = some (.ins (He.ga K "Crossing") dx (crF t1 t2 em step ostep start ostart)) ∧ Sz 4000 m ∧ Sz 4000 step ∧ Q (.int (start + m * step)) H
theorem sc_Crossing_number : FnScope ["self", "m"] ["self", "m"] (defScope s_Crossing_number) := ⟨rfl, rfl, rfl, by decide +kernel, rfl, by decide +kernel, by decide +kernel⟩
theorem ok_Crossing_number (T : Txt K mg) : Fn P w K mg base 1 (He.ma K (He.ga K "Crossing") "number") (spNum K) := by
  obtain ⟨fd, F⟩ := T.d_Crossing_number
  refine okR F sc_Crossing_number (fun vs H Q E h => ?_) (fun _ _ _ _ _ _ us hl => match us, hl with | [_, _], _ => rfl) (fun cdv A outer s H vs Q E hr h => ⟨_, (pss_one (ps_ret (pe_op op_add (pe_fld (pv 0) rfl) (pe_op op_mulW (pv 1) (pe_fld (pv 0) rfl))))), ?_⟩)
  · obtain ⟨a, dx, t1, t2, em, step, ostep, start, ostart, m, rfl, _⟩ := h; rfl
  · obtain ⟨a, dx, t1, t2, em, step, ostep, start, ostart, m, rfl, ha, zm, zs, q⟩ := h
    exact ⟨_, rfl, a, _, dx, _, _, rfl, ha, T.c_Crossing, T.a_Crossing_start, rfl, _, rfl, _, rfl, a, _, dx, _, _, rfl, ha, T.c_Crossing, T.a_Crossing_step, rfl, _, _, rfl, rfl, zm.mul zs (by decide), _, _, rfl, rfl, q⟩
def boundsR (em : Bool) (ostep ostart : Int) (L : List (Int × Int)) : Int × Option Int := if em then (1, some 0) else PM.fit ((ostart, ostep) :: L) 0 none
def spBounds (K : PySem.W.Frag) : Sp := fun vs H Q _ => ∃ (a dx t1 t2 : Addr) (em : Bool) (step ostep start ostart : Int) (l : Addr) (as : List Addr) (L : List (Int × Int)), vs = [.ref a, .ref l] ∧
  H a = some (.ins (He.ga K "Crossing") dx (crF t1 t2 em step ostep start ostart)) ∧ Sz 4000 ostep ∧ H l = some (.lst (as.map V.ref)) ∧ Paired (CondAt K H) as L ∧ as.length ≤ 10 ∧ (∀ c ∈ L, Sz 4000 c.2) ∧
  ∀ p H', Same H H' → H p = none → H' p = some (.tup [.int (boundsR em ostep ostart L).1, oV (boundsR em ostep ostart L).2]) → Q (.ref p) H'
theorem paired_same {as : List Addr} {L : List (Int × Int)} {H H' : Hp} (e : Same H H') (h : Paired (CondAt K H) as L) : Paired (CondAt K H') as L := by
  induction h with
  | nil => exact .nil
  | cons a _ ih => exact .cons (same_sqT e a) ih
theorem sc_Crossing_bounds : FnScope ["self", "more"] ["self", "more"] (defScope s_Crossing_bounds) := ⟨rfl, rfl, rfl, by decide +kernel, rfl, by decide +kernel, by decide +kernel⟩
theorem ok_Crossing_bounds (T : Txt K mg) : Fn P w K mg base 2 (He.ma K (He.ga K "Crossing") "bounds") (spBounds K) := by
  obtain ⟨fd, F⟩ := T.d_Crossing_bounds
  have G_least_fit := ok_least_fit (P := P) (w := w) (base := base) T
  obtain ⟨ds, rv, b⟩ := F.binds1 (ps := ["self", "more"]) 2 1 (List.cons_ne_nil _ _) rfl (fun _ _ _ _ _ _ _ us its h1 h2 => match us, its, h1, h2 with | [_, _], [_], _, _ => ⟨_, rfl, rfl⟩)
  cases rv
  refine okD F sc_Crossing_bounds ⟨[], b, rfl⟩ (fun vs H Q E h => ?_) (fun cdv A outer s H vs Q E hr h => ⟨_, (pss_cons (ps_if (pt_val (pe_fld (pv 0) rfl)) (pss_one (ps_ret (pe_tup (pa_cons pe_int (pa_cons pe_int pa_nil))))) pss_nil)
    (pss_one (ps_ret (pe_callR G_least_fit (hr.mono (by decide)) T.g_least_fit (T.d_least_fit.elim fun _ F => F.kp) (pa_cons (pe_lst (pa_cons (pe_tup (pa_cons (pe_fld (pv 0) rfl) (pa_cons (pe_fld (pv 0) rfl) pa_nil))) (StX.pa_star (pv 1) pa_nil))) pa_nil))))), ?_⟩)
  · obtain ⟨a, dx, t1, t2, em, step, ostep, start, ostart, l, as, L, rfl, _⟩ := h; rfl
  · obtain ⟨a, dx, t1, t2, em, step, ostep, start, ostart, l, as, L, rfl, ha, zo, hl, hp, hn, hz, q⟩ := h
    refine ⟨_, rfl, a, _, dx, _, _, rfl, ha, T.c_Crossing, T.a_Crossing_is_empty, rfl, em, rfl, ?_⟩
    cases em with
    | true => exact iteT ⟨by show 2 ≤ sizeLine; decide, fun p hp => q p _ (same_new hp) hp upd_same⟩
    | false =>
      refine iteF ⟨_, rfl, a, _, dx, _, _, rfl, ha, T.c_Crossing, T.a_Crossing_other_start, rfl, _, rfl, a, _, dx, _, _, rfl, ha, T.c_Crossing, T.a_Crossing_other_step, rfl, by show 2 ≤ sizeLine; decide, fun p hp0 => ?_⟩
      have e1 : Same H (upd H p (.tup [.int ostart, .int ostep])) := same_new hp0
      refine ⟨_, rfl, l, _, rfl, .inr (.inl (.inl (e1 _ _ hl))), ?_, fun p2 hp2 => ?_⟩
      · show (List.length (as.map V.ref ++ []) + 1) ≤ sizeLine
        rw [List.append_nil, List.length_map]
        exact Nat.le_trans (Nat.succ_le_succ hn) (by decide)
      have e2 := e1.trans (same_new (o := .lst (V.ref p :: (as.map V.ref ++ []))) hp2)
      refine ⟨p2, p :: as, (ostart, ostep) :: L, rfl, ?_, .cons ?_ (paired_same e2 hp), fun c hc => ?_, fun p3 H3 e3 h3 h4 => q p3 H3 (e2.trans e3) (e2.free h3) h4⟩
      · rw [List.append_nil]
        exact .inl (.inl upd_same)
      · exact .inl (.inl ((upd_ne (ne_of_none upd_same hp2)).trans upd_same))
      · rcases List.mem_cons.mp hc with z | z
        · rw [z]; exact zo
        · exact hz c z
theorem firstF_bounds {em : Bool} {ostep ostart step start : Int} {D L : List (Int × Int)} (hD : D = (ostart, ostep) :: L) : PM.firstF em step start (PM.fit D 0 none) = match (boundsR em ostep ostart L).2 with
    | none => some (start + (boundsR em ostep ostart L).1 * step)
    | some h => if (boundsR em ostep ostart L).1 ≤ h then some (start + (boundsR em ostep ostart L).1 * step) else none := by
  subst hD
  cases em <;> rfl
theorem bounds_sz {n : Nat} {em : Bool} {ostep ostart : Int} {L : List (Int × Int)} (ho : Sz n ostart) (hL : ∀ c ∈ L, Sz n c.1) : Sz (n + 1) (boundsR em ostep ostart L).1 := by
  cases em with
  | true => exact Sz.one n
  | false => exact fit_sz _ _ _ (fun c hc => by
    rcases List.mem_cons.mp hc with z | z
    · rw [z]; exact ho
    · exact hL c z) (Sz.zero n)
theorem late_is {d1 d2 start ostart : Int} {e : Bool} : d1 + start - d2 - ostart - (if (!e) = true then 1 else 0) = PM.lateF d1 d2 start ostart e := by
  unfold PM.lateF
  cases e <;> simp <;> omega
def spFirst (K : PySem.W.Frag) : Sp := fun vs H Q _ => ∃ (a : Addr) (d1 x1 s1 d2 x2 s2 : Int) (cnt : Option Int) (e : Bool), vs = [.ref a, oV cnt, .bl e] ∧ CrAt K H a d1 x1 s1 d2 x2 s2 ∧ (∀ c, cnt = some c → Sz 1000 c) ∧
  ∀ r H', Same H H' → PM.IsLeast (PM.PF d1 x1 s1 d2 x2 s2 cnt e) r → Q (oV r) H'
theorem sc_Crossing_first_block : FnScope ["self", "count", "is_earlier", "late", "more", "low", "high"] ["self", "count", "is_earlier"] (defScope s_Crossing_first_block) := ⟨rfl, rfl, rfl, by decide +kernel, rfl, by decide +kernel, by decide +kernel⟩
theorem ok_Crossing_first_block (T : Txt K mg) : Fn P w K mg base 3 (He.ma K (He.ga K "Crossing") "first_block") (spFirst K) := by
  obtain ⟨fd, F⟩ := T.d_Crossing_first_block
  have G_Crossing_number := ok_Crossing_number (P := P) (w := w) (base := base) T
  have G_Crossing_bounds := ok_Crossing_bounds (P := P) (w := w) (base := base) T
  refine okR F sc_Crossing_first_block (fun vs H Q E h => ?_) (fun _ _ _ _ _ _ us hl => match us, hl with | [_, _, _], _ => rfl) (fun cdv A outer s H vs Q E hr h => ⟨_, (pss_cons (ps_set (i := 3) sc_Crossing_first_block.nd rfl (.inl rfl) (pe_op op_sub (pe_op op_sub (pe_op op_sub (pe_op op_add (pe_ix ix_tup (pe_fld (pv 0) rfl) pe_int (fun _ _ => rfl)) (pe_fld (pv 0) rfl)) (pe_ix ix_tup (pe_fld (pv 0) rfl) pe_int (fun _ _ => rfl))) (pe_fld (pv 0) rfl)) (pe_callTy call_int1 (by rfl) T.f_int (by decide +kernel) (pa_cons (pe_not (pv 2)) pa_nil))))
    (pss_cons (ps_set (i := 4) sc_Crossing_first_block.nd rfl (.inl rfl) (pe_lst (pa_cons (pe_tup (pa_cons (pv 3) (pa_cons (pe_op op_sub (pe_fld (pv 0) rfl) (pe_fld (pv 0) rfl)) pa_nil))) pa_nil)))
    (pss_cons (ps_if (pt_cmpR op_notN (pv 1) pe_non (nomark _)) (pss_one (ps_expr (pe_bm PySem.F.plainAttrs_list PySem.F.slot_list_append PySem.F.type_list_append mt_append (pv 4) (pa_cons (pe_tup (pa_cons (pe_op op_sub (pe_op op_sub (pv 1) pe_int) (pe_fld (pv 0) rfl)) (pa_cons (pe_un un_neg (pe_fld (pv 0) rfl)) pa_nil))) pa_nil)))) pss_nil)
    (pss_cons (ps_asg (pe_methR (pv 0) T.c_Crossing T.m_Crossing_bounds G_Crossing_bounds (hr.mono (by decide)) pass0 (pa_cons (pv 4) pa_nil)) (pg_tup rfl (pgs_cons (pg_name (i := 5) sc_Crossing_first_block.nd rfl (.inl rfl)) (pgs_cons (pg_name (i := 6) sc_Crossing_first_block.nd rfl (.inl rfl)) pgs_nil))))
    (pss_one (ps_ret (pe_ifExp (PW.pt (pw_or (pt_cmpR op_isN (pv 6) pe_non (nomark _)) (pw_or1 (pt_cmpR op_le (pv 5) (pv 6) (nomark _))))) (pe_methR (pv 0) T.c_Crossing T.m_Crossing_number G_Crossing_number (hr.mono (by decide)) pass0 (pa_cons (pv 5) pa_nil)) pe_non))))))), ?_⟩)
  · obtain ⟨a, d1, x1, s1, d2, x2, s2, cnt, e, rfl, _⟩ := h; rfl
  · obtain ⟨a, d1, x1, s1, d2, x2, s2, cnt, e, rfl, ⟨dx, t1, t2, em, step, ostep, start, ostart, ha, h1, h2, C, zd1, zd2, zst, zos, zs, zo⟩, zc, q⟩ := h
    have zl : Sz 2600 (PM.lateF d1 d2 start ostart e) := by
      have : Sz 2600 (d1 + start - d2 - ostart - (if (!e) = true then 1 else 0)) := (((((zd1.mono (by decide : 1000 ≤ 2500)).add zs).sub (zd2.mono (by decide : 1000 ≤ 2501))).sub (zo.mono (by decide : 2500 ≤ 2502))).sub (j := if (!e) = true then 1 else 0) (by cases e <;> first | exact Sz.one 2502 | exact Sz.zero 2503)).mono (by decide)
      rw [late_is] at this
      exact this
    have zd : Sz 4000 (step - ostep) := (zst.sub zos).mono (by decide)
    refine ⟨_, rfl, a, _, dx, _, _, rfl, ha, T.c_Crossing, T.a_Crossing_one, rfl, _, _, _, _, rfl, rfl, h1, rfl, _, rfl, a, _, dx, _, _, rfl, ha, T.c_Crossing, T.a_Crossing_start, rfl, _, _, rfl, rfl, _, rfl, a, _, dx, _, _, rfl, ha, T.c_Crossing, T.a_Crossing_other, rfl, _, _, _, _, rfl, rfl, h2, rfl, _, _, rfl, rfl, _, rfl, a, _, dx, _, _, rfl, ha, T.c_Crossing, T.a_Crossing_other_start, rfl, _, _, rfl, rfl, _, rfl, e, rfl, .inr ⟨_, rfl, _, _, rfl, rfl, ?_⟩⟩
    dsimp only
    rw [late_is]
    refine ⟨_, rfl, _, rfl, a, _, dx, _, _, rfl, ha, T.c_Crossing, T.a_Crossing_step, rfl, _, rfl, a, _, dx, _, _, rfl, ha, T.c_Crossing, T.a_Crossing_other_step, rfl, _, _, rfl, rfl, (by show 2 ≤ sizeLine; decide), fun p hp => ⟨by show 1 ≤ sizeLine; decide, fun l hl0 => ?_⟩⟩
    have eP := same_new (o := .tup [.int (PM.lateF d1 d2 start ostart e), .int (step - ostep)]) hp
    have eH := eP.trans (same_new (o := .lst [.ref p]) hl0)
    have hlp : p ≠ l := ne_of_none upd_same hl0
    refine ⟨_, rfl, rfl, _, rfl, ?_⟩
    cases cnt with
    | none =>
      refine iteF ?_
      have hl : (upd (upd H p (.tup [.int (PM.lateF d1 d2 start ostart e), .int (step - ostep)])) l (.lst [.ref p])) l = some (.lst ([p].map V.ref)) := upd_same
      have hD : PM.condsF d1 d2 step ostep start ostart none e = (ostart, ostep) :: [(PM.lateF d1 d2 start ostart e, step - ostep)] := rfl
      have hq := PM.first_ok (d1 := d1) (d2 := d2) (cnt := none) (e := e) C
      rw [firstF_bounds hD] at hq
      have zb : Sz 2601 (boundsR em ostep ostart [(PM.lateF d1 d2 start ostart e, step - ostep)]).1 := bounds_sz (n := 2600) (zo.big _) (fun c hc => by rw [List.mem_singleton.mp hc]; exact zl)
      refine ⟨_, rfl, a, dx, _, rfl, eH _ _ ha, rfl, _, rfl, a, dx, t1, t2, em, step, ostep, start, ostart, l, [p], [(PM.lateF d1 d2 start ostart e, step - ostep)], rfl, eH _ _ ha, zos.big _, hl, (.cons (.inl (.inl ((upd_ne hlp).trans upd_same))) .nil), (by decide : (1 : Nat) ≤ 10), (fun c hc => by rw [List.mem_singleton.mp hc]; exact zd), fun p3 H3 e3 h3 h4 => ⟨p3, _, rfl, .inl (.inl h4), rfl, _, _, rfl, _, _, rfl, rfl, ?_⟩⟩
      generalize boundsR em ostep ostart [(PM.lateF d1 d2 start ostart e, step - ostep)] = r at hq zb
      obtain ⟨lo, hi⟩ := r
      have eF := eH.trans e3
      cases hi with
      | none => exact ⟨_, rfl, rfl, _, rfl, iteT (iteT ⟨_, rfl, a, dx, _, rfl, eF _ _ ha, rfl, _, rfl, a, dx, t1, t2, em, step, ostep, start, ostart, lo, rfl, eF _ _ ha, zb.big _, zst.big _, q _ _ eF hq⟩)⟩
      | some hh =>
        refine ⟨_, rfl, rfl, _, rfl, iteF ⟨_, rfl, _, rfl, _, _, rfl, rfl, _, rfl, ?_⟩⟩
        by_cases hle : lo ≤ hh
        · have hq : PM.IsLeast (PM.PF d1 x1 s1 d2 x2 s2 none e) (if lo ≤ hh then some (start + lo * step) else none) := hq
          rw [if_pos hle] at hq
          rw [decide_eq_true hle]
          exact iteT (⟨_, rfl, a, dx, _, rfl, eF _ _ ha, rfl, _, rfl, a, dx, t1, t2, em, step, ostep, start, ostart, lo, rfl, eF _ _ ha, zb.big _, zst.big _, q _ _ eF hq⟩)
        · have hq : PM.IsLeast (PM.PF d1 x1 s1 d2 x2 s2 none e) (if lo ≤ hh then some (start + lo * step) else none) := hq
          rw [if_neg hle] at hq
          rw [decide_eq_false hle]
          exact iteF (q _ _ eF hq)
    | some c =>
      have zc1 := zc c rfl
      refine iteT ⟨_, rfl, .inl ⟨rfl, _, .inl (.inl upd_same)⟩, _, rfl, _, _, rfl, rfl, _, rfl, a, _, dx, _, _, rfl, eH _ _ ha, T.c_Crossing, T.a_Crossing_other_start, rfl, _, _, rfl, rfl, _, rfl, a, _, dx, _, _, rfl, eH _ _ ha, T.c_Crossing, T.a_Crossing_other_step, rfl, _, rfl, (by show 2 ≤ sizeLine; decide), fun p2 hp2 => ?_⟩
      have e2 := eH.trans (same_new (o := .tup [.int (c - 1 - ostart), .int (-ostep)]) hp2)
      have hl2 : l ≠ p2 := ne_of_none upd_same hp2
      have hp12 : p ≠ p2 := ne_of_none ((upd_ne hlp).trans upd_same) hp2
      refine ⟨l, _, _, rfl, rfl, (upd_ne hl2).trans upd_same, by show 1 < sizeLine; decide, ?_⟩
      have hlH : H l = none := eP.free hl0
      have eH := same_put e2 (o := .lst [.ref p, .ref p2]) hlH
      have hl : (upd (upd (upd (upd H p (.tup [.int (PM.lateF d1 d2 start ostart e), .int (step - ostep)])) l (.lst [.ref p])) p2 (.tup [.int (c - 1 - ostart), .int (-ostep)])) l (.lst [.ref p, .ref p2])) l = some (.lst ([p, p2].map V.ref)) := upd_same
      have hD : PM.condsF d1 d2 step ostep start ostart (some c) e = (ostart, ostep) :: [(PM.lateF d1 d2 start ostart e, step - ostep), (c - 1 - ostart, -ostep)] := rfl
      have hq := PM.first_ok (d1 := d1) (d2 := d2) (cnt := (some c)) (e := e) C
      rw [firstF_bounds hD] at hq
      have zb : Sz 2601 (boundsR em ostep ostart [(PM.lateF d1 d2 start ostart e, step - ostep), (c - 1 - ostart, -ostep)]).1 := bounds_sz (n := 2600) (zo.big _) (fun c hc => (List.mem_cons.mp hc).elim (fun z => z ▸ zl) fun z => (List.mem_singleton.mp z) ▸ (((zc1.sub (Sz.one 999)).mono (by decide : 1001 ≤ 2500)).sub zo).mono (by decide))
      refine ⟨_, rfl, a, dx, _, rfl, eH _ _ ha, rfl, _, rfl, a, dx, t1, t2, em, step, ostep, start, ostart, l, [p, p2], [(PM.lateF d1 d2 start ostart e, step - ostep), (c - 1 - ostart, -ostep)], rfl, eH _ _ ha, zos.big _, hl, (.cons (.inl (.inl ((upd_ne hlp).trans ((upd_ne hp12).trans ((upd_ne hlp).trans upd_same))))) (.cons (.inl (.inl ((upd_ne (Ne.symm hl2)).trans upd_same))) .nil)), (by decide : (2 : Nat) ≤ 10), (fun c hc => (List.mem_cons.mp hc).elim (fun z => z ▸ zd) fun z => (List.mem_singleton.mp z) ▸ zos.neg.mono (by decide)), fun p3 H3 e3 h3 h4 => ⟨p3, _, rfl, .inl (.inl h4), rfl, _, _, rfl, _, _, rfl, rfl, ?_⟩⟩
      generalize boundsR em ostep ostart [(PM.lateF d1 d2 start ostart e, step - ostep), (c - 1 - ostart, -ostep)] = r at hq zb
      obtain ⟨lo, hi⟩ := r
      have eF := eH.trans e3
      cases hi with
      | none => exact ⟨_, rfl, rfl, _, rfl, iteT (iteT ⟨_, rfl, a, dx, _, rfl, eF _ _ ha, rfl, _, rfl, a, dx, t1, t2, em, step, ostep, start, ostart, lo, rfl, eF _ _ ha, zb.big _, zst.big _, q _ _ eF hq⟩)⟩
      | some hh =>
        refine ⟨_, rfl, rfl, _, rfl, iteF ⟨_, rfl, _, rfl, _, _, rfl, rfl, _, rfl, ?_⟩⟩
        by_cases hle : lo ≤ hh
        · have hq : PM.IsLeast (PM.PF d1 x1 s1 d2 x2 s2 (some c) e) (if lo ≤ hh then some (start + lo * step) else none) := hq
          rw [if_pos hle] at hq
          rw [decide_eq_true hle]
          exact iteT (⟨_, rfl, a, dx, _, rfl, eF _ _ ha, rfl, _, rfl, a, dx, t1, t2, em, step, ostep, start, ostart, lo, rfl, eF _ _ ha, zb.big _, zst.big _, q _ _ eF hq⟩)
        · have hq : PM.IsLeast (PM.PF d1 x1 s1 d2 x2 s2 (some c) e) (if lo ≤ hh then some (start + lo * step) else none) := hq
          rw [if_neg hle] at hq
          rw [decide_eq_false hle]
          exact iteF (q _ _ eF hq)
end PP
end
section
set_option maxHeartbeats 4000000
namespace PP
open PySem PySem.Spec PyProof.Rows L2 PR
variable {P : Program} {w : World} {K : PySem.W.Frag} {mg : Str → Option Value} {base : Heap}

open LamX NdefX
/-! ### what stands but the mutable parts -/
def NTb (o : HO) : Prop := ∀ ps, o ≠ .tbl ps
def Off (S : Addr → Prop) (H H' : Hp) : Prop := ∀ c o, H c = some o → NTb o → ¬ S c → H' c = some o
abbrev Ex (H H' : Hp) : Prop := Off (fun _ => False) H H'
/-- objects that never change: instances that are made, tuples, what is locked -/
def Fixed : HO → Prop
  | .ins _ _ _ => True
  | .tup _ => True
  | .frz _ _ => True
  | _ => False
def Fx (H H' : Hp) : Prop := ∀ c o, H c = some o → Fixed o → H' c = some o
theorem Fixed.ntb {o : HO} (h : Fixed o) : NTb o := fun ps e => by rw [e] at h; exact h
theorem Off.refl (S : Addr → Prop) (H : Hp) : Off S H H := fun _ _ h _ _ => h
theorem Off.trans {S : Addr → Prop} {H H1 H2 : Hp} (a : Off S H H1) (b : Off S H1 H2) : Off S H H2 := fun c o h n s => b c o (a c o h n s) n s
theorem Off.same {S : Addr → Prop} {H H' : Hp} (e : Same H H') : Off S H H' := fun c o h _ _ => e c o h
theorem Off.mono {S S' : Addr → Prop} {H H' : Hp} (a : Off S H H') (h : ∀ c, S c → S' c) : Off S' H H' := fun c o q n s => a c o q n fun z => s (h c z)
theorem Off.ex {S : Addr → Prop} {H H' : Hp} (a : Ex H H') : Off S H H' := a.mono fun _ z => z.elim
theorem Off.upd {S : Addr → Prop} {H H' : Hp} {x : Addr} {o : HO} (a : Off S H H') (h : S x) : Off S H (L2.upd H' x o) := fun c ob q n s => (upd_ne (fun z => s (by rw [z]; exact h))).trans (a c ob q n s)
theorem Off.new {S : Addr → Prop} {H H' : Hp} {x : Addr} {o : HO} (a : Off S H H') (h : H x = none) : Off S H (L2.upd H' x o) := fun c ob q n s => (upd_ne (ne_of_none q h)).trans (a c ob q n s)
theorem Ex.fx {H H' : Hp} (a : Ex H H') : Fx H H' := fun c o h f => a c o h f.ntb id
theorem Fx.same {H H' : Hp} (e : Same H H') : Fx H H' := fun c o h _ => e c o h
theorem Fx.trans {H H1 H2 : Hp} (a : Fx H H1) (b : Fx H1 H2) : Fx H H2 := fun c o h f => b c o (a c o h f) f
theorem Fx.refl (H : Hp) : Fx H H := fun _ _ h _ => h
theorem Fx.sqT {H H' : Hp} {a : Addr} {xs : List V} (e : Fx H H') (h : SqT K H a xs) : SqT K H' a xs := by
  rcases h with (h | ⟨o, h⟩) | h
  · exact .inl (.inl (e _ _ h trivial))
  · exact .inl (.inr ⟨o, e _ _ h trivial⟩)
  · exact .inr h
theorem Fx.upd {H H' : Hp} {x : Addr} {o u : HO} (a : Fx H H') (h : H x = some u) (hu : ¬ Fixed u) : Fx H (L2.upd H' x o) := fun c ob q f => (upd_ne (fun z => by rw [z, h] at q; cases q; exact hu f)).trans (a c ob q f)
theorem Fx.new {H H' : Hp} {x : Addr} {o : HO} (a : Fx H H') (h : H x = none) : Fx H (L2.upd H' x o) := fun c ob q f => (upd_ne (ne_of_none q h)).trans (a c ob q f)
theorem tabs_same {T : List NTab} {H H' : Hp} (t : TabsN T H) (e : Same H H') : TabsN T H' := t.ext e
theorem tabs_upd {T : List NTab} {H : Hp} {x : Addr} {o : HO} (t : TabsN T H) (h : ∀ u, H x = some u → NTb u ∧ ∀ c q, u ≠ CodeO c q) : TabsN T (upd H x o) := by
  intro p hp
  obtain ⟨ps, a1, a2, a3⟩ := t p hp
  have ne : ∀ c u, H c = some u → (¬ NTb u ∨ ∃ c q, u = CodeO c q) → c ≠ x := fun c u e z q => by
    rw [q] at e
    obtain ⟨h1, h2⟩ := h u e
    rcases z with z | ⟨c', q', z⟩
    · exact z h1
    · exact h2 _ _ z
  refine ⟨ps, (upd_ne (ne _ _ a1 (.inl fun z => z ps rfl))).trans a1, a2, fun pos cv hc => ?_⟩
  obtain ⟨c, e1, e2⟩ := a3 pos cv hc
  exact ⟨c, e1, (upd_ne (ne _ _ e2 (.inr ⟨_, _, rfl⟩))).trans e2⟩
theorem codeO_kind {c : Addr} {q : Str} : ¬ Fixed (CodeO c q) ∧ (∀ xs, CodeO c q ≠ .lst xs) ∧ (∀ xs, CodeO c q ≠ .dK xs) ∧ ∀ xs, CodeO c q ≠ .dT xs := by
  unfold CodeO
  refine ⟨fun z => z, fun xs z => ?_, fun xs z => ?_, fun xs z => ?_⟩ <;> cases z
theorem tabs_lst {T : List NTab} {H : Hp} {x : Addr} {o : HO} {xs : List V} (t : TabsN T H) (h : H x = some (.lst xs)) : TabsN T (upd H x o) :=
  tabs_upd t fun u e => by rw [h] at e; cases e; exact ⟨(by intro ps z; cases z), fun c q z => codeO_kind.2.1 _ z.symm⟩
theorem tabs_dK {T : List NTab} {H : Hp} {x : Addr} {o : HO} {xs : List (Key × V)} (t : TabsN T H) (h : H x = some (.dK xs)) : TabsN T (upd H x o) :=
  tabs_upd t fun u e => by rw [h] at e; cases e; exact ⟨(by intro ps z; cases z), fun c q z => codeO_kind.2.2.1 _ z.symm⟩
theorem tabs_dT {T : List NTab} {H : Hp} {x : Addr} {o : HO} {xs : List (List Key × V)} (t : TabsN T H) (h : H x = some (.dT xs)) : TabsN T (upd H x o) :=
  tabs_upd t fun u e => by rw [h] at e; cases e; exact ⟨(by intro ps z; cases z), fun c q z => codeO_kind.2.2.2 _ z.symm⟩
theorem tabs_new {T : List NTab} {H : Hp} {x : Addr} {o : HO} (t : TabsN T H) (h : H x = none) : TabsN T (upd H x o) := tabs_upd t fun u e => by rw [h] at e; cases e

/-! ### the dict of a place's blocks -/
/-- entries: the other's place, the count -/
abbrev Es := List (Nat × Int)
def dcV (es : Es) : List (Key × V) := es.map fun e => (.inl (e.1 : Int), .int e.2)
structure EsOf (n : Nat) (es : Es) (m : Nat → Option Int) : Prop where
  nd : (es.map (·.1)).Nodup
  lt : ∀ e ∈ es, e.1 < n
  is : ∀ q c, (q, c) ∈ es ↔ m q = some c
def putE (es : Es) (q : Nat) (c : Int) : Es := if q ∈ es.map (·.1) then es.map (fun e => if e.1 = q then (e.1, c) else e) else es ++ [(q, c)]
def dropE (es : Es) (q : Nat) : Es := es.filter fun e => decide (e.1 ≠ q)
theorem key_nat {a b : Nat} : ((Sum.inl (a : Int) : Key) = Sum.inl (b : Int)) ↔ a = b := ⟨fun e => by have := Sum.inl.inj e; omega, fun e => by rw [e]⟩
theorem val_dc (es : Es) (q : Nat) : valV (dcV es) (.inl (q : Int)) = (es.find? fun e => decide (e.1 = q)).map fun e => V.int e.2 := by
  induction es with
  | nil => rfl
  | cons e r ih =>
    by_cases h : e.1 = q
    · have e1 : valV (dcV (e :: r)) (.inl (q : Int)) = some (.int e.2) := valV_pos (p := (Sum.inl (e.1 : Int), V.int e.2)) (by rw [h])
      rw [e1]
      simp [List.find?_cons, h]
    · have e1 : valV (dcV (e :: r)) (.inl (q : Int)) = valV (dcV r) (.inl (q : Int)) := valV_neg (p := (Sum.inl (e.1 : Int), V.int e.2)) (fun z => h (key_nat.mp z))
      rw [e1, ih]
      simp [List.find?_cons, h]
theorem mem_keys {es : Es} {q : Nat} : q ∈ es.map (·.1) ↔ ∃ c, (q, c) ∈ es := by
  simp
theorem EsOf.none {n : Nat} {es : Es} {m : Nat → Option Int} (h : EsOf n es m) {q : Nat} : q ∈ es.map (·.1) ↔ m q ≠ Option.none := by
  rw [mem_keys]
  constructor
  · rintro ⟨c, hc⟩
    rw [(h.is q c).mp hc]
    exact fun z => nomatch z
  · intro hn
    cases hm : m q with
    | none => exact absurd hm hn
    | some c => exact ⟨c, (h.is q c).mpr hm⟩
theorem valV_any_dc {es : Es} {q : Nat} : (dcV es).any (fun kv => decide (kv.1 = (.inl (q : Int) : Key))) = decide (q ∈ es.map (·.1)) := by
  induction es with
  | nil => rfl
  | cons e r ih =>
    show (decide ((Sum.inl (e.1 : Int) : Key) = .inl (q : Int)) || (dcV r).any _) = _
    rw [ih]
    by_cases h : e.1 = q
    · simp [h]
    · have h2 : ¬ (Sum.inl (e.1 : Int) : Key) = .inl (q : Int) := fun z => h (key_nat.mp z)
      have h3 : ¬ q = e.1 := fun z => h z.symm
      rw [decide_eq_false h2]
      simp [h3]
theorem put_dc (es : Es) (q : Nat) (c : Int) : putK (dcV es) (.inl (q : Int)) (.int c) = dcV (putE es q c) := by
  unfold putK putE
  rw [valV_any_dc]
  by_cases h : q ∈ es.map (·.1)
  · rw [decide_eq_true h, if_pos rfl, if_pos h]
    unfold dcV
    rw [List.map_map, List.map_map]
    apply List.map_congr_left
    intro e _
    by_cases h2 : e.1 = q
    · simp [h2]
    · have h3 : ¬ (e.1 : Int) = (q : Int) := by omega
      simp [h2, h3]
  · rw [decide_eq_false h, if_neg (by decide), if_neg h]
    simp [dcV]
theorem drop_dc (es : Es) (q : Nat) : dropK (dcV es) (.inl (q : Int)) = dcV (dropE es q) := by
  unfold dropK dropE dcV
  rw [List.filter_map]
  congr 1
  apply List.filter_congr
  intro e _
  by_cases h2 : e.1 = q
  · simp [h2]
  · have h3 : ¬ (e.1 : Int) = (q : Int) := by omega
    simp [h2, h3]
def setM (m : Nat → Option Int) (q : Nat) (v : Option Int) : Nat → Option Int := fun i => if i = q then v else m i
theorem EsOf.put {n : Nat} {es : Es} {m : Nat → Option Int} (h : EsOf n es m) {q : Nat} (hq : q < n) (c : Int) : EsOf n (putE es q c) (setM m q (some c)) := by
  unfold putE
  by_cases hk : q ∈ es.map (·.1)
  · rw [if_pos hk]
    have ek : (es.map fun e => if e.1 = q then (e.1, c) else e).map (·.1) = es.map (·.1) := by
      rw [List.map_map]
      apply List.map_congr_left
      intro e _
      by_cases h2 : e.1 = q <;> simp [h2]
    refine ⟨by rw [ek]; exact h.nd, fun e he => ?_, fun p d => ?_⟩
    · obtain ⟨e0, h0, rfl⟩ := List.mem_map.mp he
      have := h.lt e0 h0
      split <;> exact this
    · unfold setM
      rw [List.mem_map]
      by_cases hp : p = q
      · subst hp
        rw [if_pos rfl]
        constructor
        · rintro ⟨e0, h0, e1⟩
          by_cases h2 : e0.1 = p
          · rw [if_pos h2] at e1
            cases e1; rfl
          · rw [if_neg h2] at e1
            rw [e1] at h2
            exact absurd rfl h2
        · intro e1
          cases e1
          obtain ⟨d, hd⟩ := mem_keys.mp hk
          exact ⟨(p, d), hd, by simp⟩
      · rw [if_neg hp, ← h.is]
        constructor
        · rintro ⟨e0, h0, e1⟩
          by_cases h2 : e0.1 = q
          · rw [if_pos h2] at e1
            cases e1
            exact absurd h2 hp
          · rw [if_neg h2] at e1
            rw [← e1]; exact h0
        · intro h0
          exact ⟨(p, d), h0, by simp [hp]⟩
  · rw [if_neg hk]
    refine ⟨?_, fun e he => ?_, fun p d => ?_⟩
    · rw [List.map_append, List.nodup_append]
      refine ⟨h.nd, by simp, fun a ha b hb z => ?_⟩
      simp at hb
      rw [z, hb] at ha
      exact hk ha
    · rcases List.mem_append.mp he with z | z
      · exact h.lt e z
      · rw [List.mem_singleton.mp z]; exact hq
    · unfold setM
      rw [List.mem_append, List.mem_singleton]
      by_cases hp : p = q
      · subst hp
        rw [if_pos rfl]
        constructor
        · rintro (z | z)
          · exact absurd (mem_keys.mpr ⟨d, z⟩) hk
          · cases z; rfl
        · intro z
          cases z
          exact .inr rfl
      · rw [if_neg hp, ← h.is]
        constructor
        · rintro (z | z)
          · exact z
          · cases z; exact absurd rfl hp
        · exact .inl
theorem EsOf.drop {n : Nat} {es : Es} {m : Nat → Option Int} (h : EsOf n es m) (q : Nat) : EsOf n (dropE es q) (setM m q Option.none) := by
  unfold dropE
  refine ⟨h.nd.sublist (List.filter_sublist.map _), fun e he => h.lt e (List.mem_filter.mp he).1, fun p d => ?_⟩
  rw [List.mem_filter]
  unfold setM
  by_cases hp : p = q
  · subst hp
    simp
  · simp [hp, h.is]
theorem EsOf.same {n : Nat} {es : Es} {m : Nat → Option Int} (h : EsOf n es m) {q : Nat} (hq : m q = Option.none) : EsOf n es (setM m q Option.none) := by
  have e : setM m q Option.none = m := by
    funext i
    unfold setM
    by_cases hi : i = q
    · rw [if_pos hi, hi, hq]
    · rw [if_neg hi]
  rw [e]
  exact h
theorem nodup_le : ∀ (n : Nat) (l : List Nat), l.Nodup → (∀ x ∈ l, x < n) → l.length ≤ n
  | 0, l, _, h => by
    cases l with
    | nil => simp
    | cons a _ => exact absurd (h a (List.mem_cons_self ..)) (by omega)
  | n + 1, l, hd, h => by
    by_cases hm : n ∈ l
    · have h1 := nodup_le n (l.erase n) (hd.erase n) fun x hx => by
        have h2 := h x (List.mem_of_mem_erase hx)
        have h3 : x ≠ n := fun z => (hd.not_mem_erase) (z ▸ hx)
        omega
      rw [List.length_erase_of_mem hm] at h1
      omega
    · have h1 := nodup_le n l hd fun x hx => by
        have h2 := h x hx
        have h3 : x ≠ n := fun z => hm (z ▸ hx)
        omega
      omega
theorem EsOf.len {n : Nat} {es : Es} {m : Nat → Option Int} (h : EsOf n es m) : es.length ≤ n := by
  have := nodup_le n (es.map (·.1)) h.nd fun x hx => by
    obtain ⟨e, he, rfl⟩ := List.mem_map.mp hx
    exact h.lt e he
  simpa using this
theorem len_dc (es : Es) : (dcV es).length = es.length := List.length_map ..
end PP
end
section
set_option maxHeartbeats 4000000
namespace PP
open PySem PySem.Spec PyProof.Rows L2 PR
variable {P : Program} {w : World} {K : PySem.W.Frag} {mg : Str → Option Value} {base : Heap}

open LamX NdefX
theorem nodup_get {α : Type} {l : List α} (h : l.Nodup) {i j : Nat} {a : α} (hi : l[i]? = some a) (hj : l[j]? = some a) : i = j := by
  obtain ⟨l1, e1⟩ := List.getElem?_eq_some_iff.mp hi
  obtain ⟨l2, e2⟩ := List.getElem?_eq_some_iff.mp hj
  have h := List.pairwise_iff_getElem.mp h
  rcases Nat.lt_trichotomy i j with z | z | z
  · exact absurd (e1.trans e2.symm) (h i j l1 l2 z)
  · exact z
  · exact absurd (e2.trans e1.symm) (h j i l2 l1 z)
/-! ### painters -/
structure PT where
  name : Str
  day : Int
  post : Int
  str : Int
def PaintAt (K : PySem.W.Frag) (H : Hp) (a : Addr) (p : PT) : Prop := ∃ dx t, H a = some (.ins (He.ga K "Painter") dx [("parts", .ref t)]) ∧ SqT K H t [.str p.name, .int p.day, .int p.post, .int p.str] ∧ WayOk p.day p.post p.str
theorem PaintAt.fx {H H' : Hp} {a : Addr} {p : PT} (e : Fx H H') (h : PaintAt K H a p) : PaintAt K H' a p := by
  obtain ⟨dx, t, h1, h2, h3⟩ := h
  exact ⟨dx, t, e _ _ h1 trivial, e.sqT h2, h3⟩
theorem paints_fx {H H' : Hp} {as : List Addr} {ps : List PT} (e : Fx H H') (h : Paired (PaintAt K H) as ps) : Paired (PaintAt K H') as ps := by
  induction h with
  | nil => exact .nil
  | cons a _ ih => exact .cons (a.fx e) ih
/-! ### the blocks of a fence or a ring, whichever -/
structure Kd where
  C : Addr
  CC : Addr
  ar : Option Int
  CA : Hp → Addr → Nat → Nat → Prop
  fb : Nat → Nat → Option Int → Option Int
  lok : Nat → Int → Prop
structure BS where
  b : Addr
  dx : Addr
  pt : Addr
  lm : Addr
  fr : Addr
  cr : Addr
  fas : List Addr
  pas : List Addr
def BS.S (st : BS) (c : Addr) : Prop := c = st.lm ∨ c = st.cr ∨ c ∈ st.fas
def bkF (ar : Option Int) (pt lm fr cr : Addr) : Fl := match ar with
  | none => [("walkers", .ref pt), ("limits", .ref lm), ("firsts", .ref fr), ("crossings", .ref cr)]
  | some n => [("around", .int n), ("walkers", .ref pt), ("limits", .ref lm), ("firsts", .ref fr), ("crossings", .ref cr)]
def limV (n : Nat) (lim : PM.Lims) : List V := (List.range n).map fun i => oV (lim i)
theorem limV_len {n : Nat} {lim : PM.Lims} : (limV n lim).length = n := by simp [limV]
theorem limV_get {n : Nat} {lim : PM.Lims} {i : Nat} (h : i < n) : (limV n lim)[i]? = some (oV (lim i)) := by simp [limV, h]
/-- entries of all places -/
abbrev Ms := Nat → Nat → Option Int
def setMM (m : Ms) (p q : Nat) (v : Option Int) : Ms := fun i => if i = p then setM (m p) q v else m i
structure BkAt (kd : Kd) (K : PySem.W.Frag) (H : Hp) (st : BS) (ps : List PT) (lim : PM.Lims) (m : Ms) (D : Nat → Nat → Prop) (L : Nat) : Prop where
  b : H st.b = some (.ins kd.C st.dx (bkF kd.ar st.pt st.lm st.fr st.cr))
  w : SqT K H st.pt (st.pas.map V.ref)
  pp : Paired (PaintAt K H) st.pas ps
  lm : H st.lm = some (.lst (limV ps.length lim))
  fr : H st.fr = some (.lst (st.fas.map V.ref))
  fl : st.fas.length = ps.length
  fn : st.fas.Nodup
  ffr : st.fr ≠ st.lm
  fd : ∀ i f, st.fas[i]? = some f → ∃ es, H f = some (.dK (dcV es)) ∧ EsOf ps.length es (m i)
  cr : ∃ kv, H st.cr = some (.dT kv) ∧ kv.length ≤ L ∧ ∀ p q, D p q → ∃ x, valV kv [.inl (p : Int), .inl (q : Int)] = some (.ref x) ∧ kd.CA H x p q
  n8 : ps.length ≤ 8
  lz : ∀ p c, p < ps.length → lim p = some c → kd.lok p c
  mz : ∀ p q c, p < ps.length → m p q = some c → kd.lok p c
/-- the way of the crossing method's promise -/
def spCross (kd : Kd) (K : PySem.W.Frag) (ps : List PT) : Sp := fun vs H Q _ => ∃ (b dx pt lm fr cr pa qa : Addr) (p q : Nat) (P1 P2 : PT), vs = [.ref b, .ref pa, .ref qa] ∧ H b = some (.ins kd.C dx (bkF kd.ar pt lm fr cr)) ∧
  ps[p]? = some P1 ∧ ps[q]? = some P2 ∧ p ≠ q ∧ PaintAt K H pa P1 ∧ PaintAt K H qa P2 ∧ ∀ x H', Same H H' → H x = none → kd.CA H' x p q → Q (.ref x) H'
def spFB (kd : Kd) (n : Nat) (T : List NTab) : Sp := fun vs H Q _ => ∃ (x : Addr) (p q : Nat) (c : Option Int), vs = [.ref x, oV c, .bl (decide ((q : Int) < (p : Int)))] ∧ kd.CA H x p q ∧ p < n ∧ q < n ∧ p ≠ q ∧ (∀ v, c = some v → kd.lok q v) ∧ TabsN T H ∧
  ∀ H', Ex H H' → TabsN T H' → Q (oV (kd.fb p q c)) H'
structure KindOk (P : Program) (w : World) (K : PySem.W.Frag) (mg : Str → Option Value) (base : Heap) (T : List NTab) (kd : Kd) (ps : List PT) (k : Nat) : Prop where
  cl : Cls K kd.C
  nw : NoAttr K kd.C "walkers"
  nl : NoAttr K kd.C "limits"
  nf : NoAttr K kd.C "firsts"
  nc : NoAttr K kd.C "crossings"
  mc : Meth K kd.C "crossing" (He.ma K kd.C "crossing")
  ml : Meth K kd.C "look" (He.ma K kd.C "look")
  m1 : Meth K kd.C "first_of" (He.ma K kd.C "first_of")
  mn : Meth K kd.C "next_stop" (He.ma K kd.C "next_stop")
  ms : Meth K kd.C "settle" (He.ma K kd.C "settle")
  dl : FD K "look" "Blocks.look" s_Blocks_look [] (He.ma K kd.C "look")
  d1 : FD K "first_of" "Blocks.first_of" s_Blocks_first_of [] (He.ma K kd.C "first_of")
  dn : FD K "next_stop" "Blocks.next_stop" s_Blocks_next_stop [] (He.ma K kd.C "next_stop")
  ds : FD K "settle" "Blocks.settle" s_Blocks_settle [] (He.ma K kd.C "settle")
  da : FD K "all_stops" "Blocks.all_stops" s_Blocks_all_stops [] (He.ma K kd.C "all_stops")
  clC : Cls K kd.CC
  mf : Meth K kd.CC "first_block" (He.ma K kd.CC "first_block")
  ca : ∀ H x p q, kd.CA H x p q → ∃ dx fs, H x = some (.ins kd.CC dx fs) ∧ fs.lookup ("first_block" : Str) = none
  cfx : ∀ H H' x p q, Fx H H' → kd.CA H x p q → kd.CA H' x p q
  fbok : ∀ p q c k, p < ps.length → q < ps.length → p ≠ q → (∀ v, c = some v → kd.lok q v) → kd.fb p q c = some k → kd.lok p k
  cross : Fn P w K mg base k (He.ma K kd.C "crossing") (spCross kd K ps)
  first : Fn P w K mg base k (He.ma K kd.CC "first_block") (spFB kd ps.length T)
theorem bk_lk {ar : Option Int} {pt lm fr cr : Addr} : (bkF ar pt lm fr cr).lookup ("walkers" : Str) = some (.ref pt) ∧ (bkF ar pt lm fr cr).lookup ("limits" : Str) = some (.ref lm) ∧ (bkF ar pt lm fr cr).lookup ("firsts" : Str) = some (.ref fr) ∧
    (bkF ar pt lm fr cr).lookup ("crossings" : Str) = some (.ref cr) ∧ (bkF ar pt lm fr cr).lookup ("look" : Str) = none ∧ (bkF ar pt lm fr cr).lookup ("first_of" : Str) = none ∧ (bkF ar pt lm fr cr).lookup ("crossing" : Str) = none ∧ (bkF ar pt lm fr cr).lookup ("next_stop" : Str) = none ∧
    (bkF ar pt lm fr cr).lookup ("settle" : Str) = none ∧ (bkF ar pt lm fr cr).lookup ("all_stops" : Str) = none := by
  cases ar <;> exact ⟨rfl, rfl, rfl, rfl, rfl, rfl, rfl, rfl, rfl, rfl⟩
section
variable {T : List NTab} {kd : Kd} {ps : List PT} {k L : Nat} {H H' : Hp} {st : BS} {lim : PM.Lims} {m : Ms} {D : Nat → Nat → Prop}
/-- what stays while all but other things are touched -/
theorem BkAt.off (O : KindOk P w K mg base T kd ps k) (B : BkAt kd K H st ps lim m D L) (e : Ex H H') : BkAt kd K H' st ps lim m D L := by
  obtain ⟨b, w, pp, lm, fr, fl, fn, ffr, fd, ⟨kv, h1, h2, h3⟩, n8, lz, mz⟩ := B
  have ex : ∀ c o, H c = some o → NTb o → H' c = some o := fun c o h n => e c o h n id
  refine ⟨ex _ _ b (by intro ps z; cases z), e.fx.sqT w, paints_fx e.fx pp, ex _ _ lm (by intro ps z; cases z), ex _ _ fr (by intro ps z; cases z), fl, fn, ffr, fun i f hf => ?_, ⟨kv, ex _ _ h1 (by intro ps z; cases z), h2, fun p q hd => ?_⟩, n8, lz, mz⟩
  · obtain ⟨es, a, b⟩ := fd i f hf
    exact ⟨es, ex _ _ a (by intro ps z; cases z), b⟩
  · obtain ⟨x, a, b⟩ := h3 p q hd
    exact ⟨x, a, O.cfx _ _ _ _ _ e.fx b⟩
theorem BkAt.fx (B : BkAt kd K H st ps lim m D L) (e : Off st.S H H') : Fx H H' := fun c o h f => e c o h f.ntb fun s => by
  rcases s with rfl | rfl | s
  · rw [B.lm] at h; cases h; exact f
  · obtain ⟨kv, h1, _⟩ := B.cr
    rw [h1] at h; cases h; exact f
  · obtain ⟨i, hi⟩ := List.mem_iff_getElem?.mp s
    obtain ⟨es, h1, _⟩ := B.fd i c hi
    rw [h1] at h; cases h; exact f
/-- the entry of one place is written -/
theorem BkAt.put (O : KindOk P w K mg base T kd ps k) (B : BkAt kd K H st ps lim m D L) {p q : Nat} {f : Addr} {es : Es} {v : Option Int} (hf : st.fas[p]? = some f) (he : EsOf ps.length es (setM (m p) q v)) (hv : ∀ c, v = some c → kd.lok p c) :
    BkAt kd K (upd H f (.dK (dcV es))) st ps lim (setMM m p q v) D L := by
  obtain ⟨es0, hf0, he0⟩ := B.fd p f hf
  have ne : ∀ {c o}, H c = some o → (∀ kv, o ≠ .dK kv) → c ≠ f := fun {c o} h n z => by rw [z, hf0] at h; cases h; exact n _ rfl
  have e : Fx H (upd H f (.dK (dcV es))) := (Fx.refl H).upd hf0 id
  obtain ⟨b, w, pp, lm, fr, fl, fn, ffr, fd, ⟨kv, h1, h2, h3⟩, n8, lz, mz⟩ := B
  refine ⟨(upd_ne (ne b (by intro kv z; cases z))).trans b, e.sqT w, paints_fx e pp, (upd_ne (ne lm (by intro kv z; cases z))).trans lm, (upd_ne (ne fr (by intro kv z; cases z))).trans fr, fl, fn, ffr, fun i f' hf' => ?_,
    ⟨kv, (upd_ne (ne h1 (by intro kv z; cases z))).trans h1, h2, fun p q hd => ?_⟩, n8, lz, fun p' q' c hp' hm => ?_⟩
  · unfold setMM
    by_cases hi : i = p
    · subst hi
      have : f' = f := by rw [hf] at hf'; exact (Option.some.inj hf').symm
      subst this
      rw [if_pos rfl]
      exact ⟨es, upd_same, he⟩
    · rw [if_neg hi]
      obtain ⟨es', a1, a2⟩ := fd i f' hf'
      refine ⟨es', (upd_ne fun z => hi ?_).trans a1, a2⟩
      subst z
      exact nodup_get fn hf' hf
  · obtain ⟨x, a, b⟩ := h3 p q hd
    exact ⟨x, a, O.cfx _ _ _ _ _ e b⟩
  · unfold setMM at hm
    by_cases hi : p' = p
    · subst hi
      rw [if_pos rfl] at hm
      unfold setM at hm
      by_cases hq : q' = q
      · rw [if_pos hq] at hm
        exact hv c hm
      · rw [if_neg hq] at hm
        exact mz _ _ _ hp' hm
    · rw [if_neg hi] at hm
      exact mz _ _ _ hp' hm
end
def spLook (kd : Kd) (K : PySem.W.Frag) (ps : List PT) (T : List NTab) : Sp := fun vs H Q _ => ∃ (st : BS) (lim : PM.Lims) (m : Ms) (D : Nat → Nat → Prop) (L p q : Nat), vs = [.ref st.b, .int p, .int q] ∧ BkAt kd K H st ps lim m D L ∧ TabsN T H ∧ p < ps.length ∧ q < ps.length ∧ p ≠ q ∧ D p q ∧
  ∀ H', Off st.S H H' → TabsN T H' → BkAt kd K H' st ps lim (setMM m p q (kd.fb p q (lim q))) D L → Q .non H'
theorem sc_Blocks_look : FnScope ["self", "place", "other_place", "crossing", "count"] ["self", "place", "other_place"] (defScope s_Blocks_look) := ⟨rfl, rfl, rfl, by decide +kernel, rfl, by decide +kernel, by decide +kernel⟩
theorem ok_look {T : List NTab} {kd : Kd} {ps : List PT} {k : Nat} (O : KindOk P w K mg base T kd ps k) : Fn P w K mg base (k + 1) (He.ma K kd.C "look") (spLook kd K ps T) := by
  obtain ⟨fd, F⟩ := O.dl
  refine okR F sc_Blocks_look (fun vs H Q E h => ?_) (fun _ _ _ _ _ _ us hl => match us, hl with | [_, _, _], _ => rfl) (fun cdv A outer s H vs Q E hr h => ⟨_, (pss_cons (ps_set (i := 3) sc_Blocks_look.nd rfl (.inl rfl) (pe_dget (hu_of hr) (pe_fld (pv 0) rfl) (pe_tup (pa_cons (pv 1) (pa_cons (pv 2) pa_nil))) (fun _ _ => rfl)))
    (pss_cons (ps_set (i := 4) sc_Blocks_look.nd rfl (.inl rfl) (pe_methR (pv 3) O.clC O.mf O.first hr pass0 (pa_cons (pe_ix ix_list (pe_fld (pv 0) rfl) (pv 2) (fun _ _ => rfl)) (pa_cons (pe_cmpR op_lt (pv 2) (pv 1) (nomark _)) pa_nil))))
    (pss_one (ps_if (pt_cmpR op_isN (pv 4) pe_non (nomark _)) (pss_one (ps_expr (pe_dpop2 (pe_ix ix_list (pe_fld (pv 0) rfl) (pv 1) (fun _ _ => rfl)) (pv 2) pe_non ⟨rfl, rfl, rfl, rfl⟩))) (pss_one (ps_dput (hu_of hr) (pe_ix ix_list (pe_fld (pv 0) rfl) (pv 1) (fun _ _ => rfl)) (pv 2) (pv 4) rfl)))))), ?_⟩)
  · obtain ⟨st, lim, m, D, L, p, q, rfl, _⟩ := h; rfl
  · obtain ⟨st, lim, m, D, L, p, q, rfl, B, tb, hp, hq, hpq, hD, hk⟩ := h
    obtain ⟨kv, hcr, hcl, hcs⟩ := B.cr
    obtain ⟨x, hx, hCA⟩ := hcs p q hD
    refine ⟨_, rfl, st.b, kd.C, st.dx, _, _, rfl, B.b, O.cl, O.nc, bk_lk.2.2.2.1, _, rfl, _, rfl, by show 2 ≤ sizeLine; decide, fun t ht => ?_⟩
    have e1 : Ex H (upd H t (.tup [.int p, .int q])) := .same (same_new ht)
    have B1 := B.off O e1
    refine ⟨st.cr, .ref x, rfl, by rw [← hx]; exact DGet.t (k := [.inl (p : Int), .inl (q : Int)]) ((upd_ne (ne_of_none hcr ht)).trans hcr) upd_same, ?_⟩
    have hCA1 := O.cfx _ _ _ _ _ e1.fx hCA
    obtain ⟨dxc, fsc, hxc, hlk⟩ := O.ca _ _ _ _ hCA1
    refine ⟨_, rfl, x, dxc, fsc, rfl, hxc, hlk, _, rfl, st.b, kd.C, st.dx, _, _, rfl, B1.b, O.cl, O.nl, bk_lk.2.1, _, rfl, st.lm, _, _, _, rfl, rfl, .inl (.inl B1.lm), atI_nat (limV_get hq), _, rfl, _, rfl, _, _, rfl, rfl, ?_⟩
    refine ⟨x, p, q, lim q, rfl, hCA1, hp, hq, hpq, fun v hv => B.lz q v hq hv, tabs_new tb ht, fun H2 e2 t2 => ?_⟩
    have B2 := B1.off O e2
    have e12 : Off st.S H H2 := (e1.trans e2).ex
    obtain ⟨f, hf⟩ : ∃ f, st.fas[p]? = some f := ⟨_, List.getElem?_eq_getElem (by rw [B.fl]; exact hp)⟩
    obtain ⟨es, hfd, hes⟩ := B2.fd p f hf
    have hfv : (st.fas.map V.ref)[p]? = some (.ref f) := by rw [List.getElem?_map, hf]; rfl
    have hS : st.S f := .inr (.inr (List.mem_of_getElem? hf))
    refine ⟨_, rfl, rfl, _, rfl, ?_⟩
    cases hr : kd.fb p q (lim q) with
    | none =>
      rw [hr] at hk
      refine iteT ⟨_, rfl, st.b, kd.C, st.dx, _, _, rfl, B2.b, O.cl, O.nf, bk_lk.2.2.1, _, rfl, st.fr, _, _, _, rfl, rfl, .inl (.inl B2.fr), atI_nat hfv, f, rfl, .inl ⟨_, .inl hfd⟩, _, rfl, dcV es, .inl (q : Int), hfd, rfl, fun v hv => ?_, fun hv => ?_⟩
      · rw [drop_dc]
        exact hk _ (e12.upd hS) (tabs_dK t2 hfd) (B2.put O hf (hes.drop q) fun c z => nomatch z)
      · have hm : m p q = none := by
          cases hm : m p q with
          | none => rfl
          | some c =>
            have h1 : (q, c) ∈ es := (hes.is q c).mpr hm
            rw [val_dc] at hv
            have h2 := Option.map_eq_none_iff.mp hv
            have h3 := List.find?_eq_none.mp h2 _ h1
            simp at h3
        have B3 : BkAt kd K (upd H2 f (.dK (dcV es))) st ps lim (setMM m p q none) D L := B2.put O hf (hes.same hm) fun c z => nomatch z
        have e3 : upd H2 f (.dK (dcV es)) = H2 := by
          funext c
          by_cases hc : c = f
          · rw [hc, upd_same, hfd]
          · rw [upd_ne hc]
        rw [e3] at B3
        exact hk _ e12 t2 B3
    | some c =>
      rw [hr] at hk
      refine iteF ⟨_, rfl, _, rfl, st.b, kd.C, st.dx, _, _, rfl, B2.b, O.cl, O.nf, bk_lk.2.2.1, _, rfl, st.fr, _, _, _, rfl, rfl, .inl (.inl B2.fr), atI_nat hfv, _, rfl, f, _, rfl, DPut.k (k := .inl (q : Int)) hfd ?_, ?_⟩
      · rw [len_dc]
        exact Nat.lt_of_le_of_lt (Nat.le_trans hes.len B.n8) (by decide)
      · have e5 : putK (dcV es) (Sum.inl (q : Int)) (oV (some c)) = dcV (putE es q c) := put_dc es q c
        rw [e5]
        exact hk _ (e12.upd hS) (tabs_dK t2 hfd) (B2.put O hf (hes.put hq c) fun c' z => by
          cases z
          exact O.fbok p q (lim q) c hp hq hpq (fun v hv => B.lz q v hq hv) hr)
end PP
end
section
set_option maxHeartbeats 4000000
namespace PP
open PySem PySem.Spec PyProof.Rows L2 PR
variable {P : Program} {w : World} {K : PySem.W.Frag} {mg : Str → Option Value} {base : Heap}

open LamX NdefX
/-! ### least of a list -/
theorem listLt_trans : ∀ xs ys zs : List Int, PySem.W.listLt xs ys = true → PySem.W.listLt ys zs = true → PySem.W.listLt xs zs = true
  | [], [], _, h, _ => by simp [PySem.W.listLt] at h
  | [], y :: ys, [], _, h => by simp [PySem.W.listLt] at h
  | [], y :: ys, z :: zs, _, _ => by simp [PySem.W.listLt]
  | x :: xs, [], _, h, _ => by simp [PySem.W.listLt] at h
  | x :: xs, y :: ys, [], _, h => by simp [PySem.W.listLt] at h
  | x :: xs, y :: ys, z :: zs, h1, h2 => by
    unfold PySem.W.listLt at h1 h2 ⊢
    by_cases a : x = y
    · subst a
      rw [if_pos rfl] at h1
      by_cases b : x = z
      · rw [if_pos b] at h2 ⊢
        exact listLt_trans xs ys zs h1 h2
      · rw [if_neg b] at h2 ⊢
        exact h2
    · rw [if_neg a] at h1
      have h1 : x < y := of_decide_eq_true h1
      by_cases b : y = z
      · subst b
        rw [if_neg a]
        exact decide_eq_true h1
      · rw [if_neg b] at h2
        have h2 : y < z := of_decide_eq_true h2
        rw [if_neg (by omega)]
        exact decide_eq_true (Int.lt_trans h1 h2)
theorem listLt_irrefl : ∀ xs : List Int, PySem.W.listLt xs xs = false
  | [] => rfl
  | x :: xs => by
    unfold PySem.W.listLt
    rw [if_pos rfl]
    exact listLt_irrefl xs
abbrev TI := PySem.W.Tup Int
def tlt (a b : TI) : Bool := PySem.W.listLt a.items b.items
theorem listLt_total : ∀ l m : List Int, l.length = m.length → PySem.W.listLt l m = false → PySem.W.listLt m l = false → l = m
  | [], [], _, _, _ => rfl
  | [], _ :: _, h, _, _ => by simp at h
  | _ :: _, [], h, _, _ => by simp at h
  | a :: l, b :: m, hl, h1, h2 => by
    unfold PySem.W.listLt at h1 h2
    by_cases e : a = b
    · subst e
      rw [if_pos rfl] at h1 h2
      rw [listLt_total l m (by simpa using hl) h1 h2]
    · rw [if_neg e] at h1
      rw [if_neg (fun z => e z.symm)] at h2
      have h1 := of_decide_eq_false h1
      have h2 := of_decide_eq_false h2
      omega
theorem minT_is (n : Nat) : ∀ (xs : List TI) (x : TI), x.items.length = n → (∀ y ∈ xs, y.items.length = n) → PySem.W.minOf x xs ∈ x :: xs ∧ ∀ y ∈ x :: xs, tlt y (PySem.W.minOf x xs) = false
  | [], x, _, _ => ⟨List.mem_cons_self .., fun y hy => by rw [List.mem_singleton.mp hy]; exact listLt_irrefl _⟩
  | z :: zs, x, hx, hxs => by
    have hz := hxs z (List.mem_cons_self ..)
    have hzs : ∀ y ∈ zs, y.items.length = n := fun y hy => hxs y (List.mem_cons_of_mem _ hy)
    by_cases h : tlt z x = true
    · have e : PySem.W.minOf x (z :: zs) = PySem.W.minOf z zs := by
        show List.foldl _ (if tlt z x = true then z else x) zs = _
        rw [if_pos h]; rfl
      rw [e]
      obtain ⟨i1, i2⟩ := minT_is n zs z hz hzs
      refine ⟨List.mem_cons_of_mem _ i1, fun y hy => ?_⟩
      rcases List.mem_cons.mp hy with hy | hy
      · rw [hy]
        cases q : tlt x (PySem.W.minOf z zs) with
        | false => rfl
        | true => rw [← i2 z (List.mem_cons_self ..)]; exact (listLt_trans _ _ _ h q).symm
      · exact i2 y hy
    · have e : PySem.W.minOf x (z :: zs) = PySem.W.minOf x zs := by
        show List.foldl _ (if tlt z x = true then z else x) zs = _
        rw [if_neg h]; rfl
      rw [e]
      obtain ⟨i1, i2⟩ := minT_is n zs x hx hzs
      refine ⟨?_, fun y hy => ?_⟩
      · rcases List.mem_cons.mp i1 with i1 | i1
        · rw [i1]; exact List.mem_cons_self ..
        · exact List.mem_cons_of_mem _ (List.mem_cons_of_mem _ i1)
      · rcases List.mem_cons.mp hy with hy | hy
        · rw [hy]; exact i2 x (List.mem_cons_self ..)
        · rcases List.mem_cons.mp hy with hy | hy
          · rw [hy]
            cases q : tlt z (PySem.W.minOf x zs) with
            | false => rfl
            | true =>
              exfalso
              cases q2 : tlt (PySem.W.minOf x zs) x with
              | true => exact h (listLt_trans _ _ _ q q2)
              | false =>
                have hm : (PySem.W.minOf x zs).items.length = n := by
                  rcases List.mem_cons.mp i1 with i1 | i1
                  · rw [i1]; exact hx
                  · exact hzs _ i1
                have e3 := listLt_total _ _ (hm.trans hx.symm) q2 (i2 x (List.mem_cons_self ..))
                have e4 : tlt z (PySem.W.minOf x zs) = tlt z x := by unfold tlt; rw [e3]
                rw [e4] at q
                exact h q
          · exact i2 y (List.mem_cons_of_mem _ hy)
/-- pairs -/
theorem tlt2 {a b c d : Int} : tlt ⟨[a, b]⟩ ⟨[c, d]⟩ = true ↔ a < c ∨ (a = c ∧ b < d) := by
  show PySem.W.listLt [a, b] [c, d] = true ↔ _
  unfold PySem.W.listLt PySem.W.listLt PySem.W.listLt
  by_cases e : a = c
  · by_cases e2 : b = d
    · simp [e, e2]
    · rw [if_pos e, if_neg e2]
      show decide (b < d) = true ↔ _
      rw [decide_eq_true_eq]; omega
  · rw [if_neg e]
    show decide (a < c) = true ↔ _
    rw [decide_eq_true_eq]; omega
theorem tlt4 {a b c d a' b' c' d' : Int} : tlt ⟨[a, b, c, d]⟩ ⟨[a', b', c', d']⟩ = true ↔ a < a' ∨ (a = a' ∧ (b < b' ∨ (b = b' ∧ (c < c' ∨ (c = c' ∧ d < d'))))) := by
  have step : ∀ (x y : Int) (l m : List Int), PySem.W.listLt (x :: l) (y :: m) = true ↔ x < y ∨ (x = y ∧ PySem.W.listLt l m = true) := fun x y l m => by
    rw [PySem.W.listLt]
    by_cases e : x = y
    · rw [if_pos e]; constructor
      · intro h; exact .inr ⟨e, h⟩
      · rintro (h | h)
        · omega
        · exact h.2
    · rw [if_neg e]
      show decide (x < y) = true ↔ _
      rw [decide_eq_true_eq]; constructor
      · exact .inl
      · rintro (h | h)
        · exact h
        · exact absurd h.1 e
  show PySem.W.listLt [a, b, c, d] [a', b', c', d'] = true ↔ _
  rw [step, step, step, step]
  have e : PySem.W.listLt ([] : List Int) [] = false := rfl
  rw [e]
  simp
theorem pr_snoc {α β : Type} {R : α → β → Prop} {xs : List α} {ys : List β} {x : α} {y : β} (h : Paired R xs ys) (r : R x y) : Paired R (xs ++ [x]) (ys ++ [y]) := by
  induction h with
  | nil => exact .cons r .nil
  | cons a _ ih => exact .cons a ih
theorem pr_imp {α β : Type} {R R' : α → β → Prop} {xs : List α} {ys : List β} (h : Paired R xs ys) (f : ∀ x y, R x y → R' x y) : Paired R' xs ys := by
  induction h with
  | nil => exact .nil
  | cons a _ ih => exact .cons (f _ _ a) ih
theorem take_snoc {α : Type} {l : List α} {i : Nat} {x : α} (h : l[i]? = some x) : l.take (i + 1) = l.take i ++ [x] := by
  rw [List.take_succ, h]; rfl
theorem lst_nf {xs : List V} : ¬ Fixed (.lst xs) := id
/-! ### first_of -/
def spFirstOf (kd : Kd) (K : PySem.W.Frag) (ps : List PT) : Sp := fun vs H Q _ => ∃ (st : BS) (lim : PM.Lims) (m : Ms) (D : Nat → Nat → Prop) (L p : Nat), vs = [.ref st.b, .int p] ∧ BkAt kd K H st ps lim m D L ∧ p < ps.length ∧
  ((∀ q, m p q = none) → ∀ H', Same H H' → Q .non H') ∧
  ∀ c q a H', m p q = some c → (∀ q' c', m p q' = some c' → c < c' ∨ (c = c' ∧ q ≤ q')) → Same H H' → SqT K H' a [.int c, .int q] → Q (.ref a) H'
theorem sc_Blocks_first_of : FnScope ["self", "place", "other_place", "count"] ["self", "place"] (defScope s_Blocks_first_of) := ⟨rfl, rfl, rfl, by decide +kernel, rfl, by decide +kernel, by decide +kernel⟩
theorem ok_first_of {T : List NTab} {kd : Kd} {ps : List PT} {k : Nat} (T0 : Txt K mg) (O : KindOk P w K mg base T kd ps k) : Fn P w K mg base 1 (He.ma K kd.C "first_of") (spFirstOf kd K ps) := by
  obtain ⟨fd, F⟩ := O.d1
  have T := T0
  refine okR F sc_Blocks_first_of (fun vs H Q E h => ?_) (fun _ _ _ _ _ _ us hl => match us, hl with | [_, _], _ => rfl) (fun cdv A outer s H vs Q E hr h => ⟨_, (pss_one (ps_ret (pe_callBK (cr_minT rfl hr.units) (by rfl) T.f_min (by decide +kernel) (pa_cons (pe_lock (pe_lc (own := [("other_place", 2), ("count", 3)]) (g := gTup K 2 (gCons (gName 2) (gCons (gName 3) gNil))) rfl sc_Blocks_first_of.nd (pi_items (pe_ix ix_list (pe_fld (pv 0) rfl) (pv 1) (fun _ _ => rfl))) (blkOk_by (own := [("other_place", 2), ("count", 3)]) (N := ["self", "place", "other_place", "count"]) (sc := defScope s_Blocks_first_of) (by decide +kernel)) (fun _ _ _ _ _ => (pg_tup rfl (pgs_cons (pg_name (i := 2) sc_Blocks_first_of.nd rfl (.inl rfl) (hf := .inr rfl)) (pgs_cons (pg_name (i := 3) sc_Blocks_first_of.nd rfl (.inl rfl) (hf := .inr rfl)) pgs_nil)))) (fun _ _ _ _ _ => pts_nil) (fun _ _ _ _ _ => (pe_tup (pa_cons (pv 3) (pa_cons (pv 2) pa_nil)))))) pa_nil) (pk_cons pe_non pk_nil)))), ?_⟩)
  · obtain ⟨st, lim, m, D, L, p, rfl, _⟩ := h; rfl
  · obtain ⟨st, lim, m, D, L, p, rfl, B, hp, q0, q1⟩ := h
    obtain ⟨f, hf⟩ : ∃ f, st.fas[p]? = some f := ⟨_, List.getElem?_eq_getElem (by rw [B.fl]; exact hp)⟩
    obtain ⟨es, hfd, hes⟩ := B.fd p f hf
    have hfv : (st.fas.map V.ref)[p]? = some (.ref f) := by rw [List.getElem?_map, hf]; rfl
    have nf : ∀ {c o}, H c = some o → (∀ kv, o ≠ .dK kv) → c ≠ f := fun {c o} h n z => by rw [z, hfd] at h; cases h; exact n _ rfl
    refine ⟨f, _, hfd, trivial, fun od => ?_⟩
    have hl : ∀ {c o}, H c = some o → (∀ kv, o ≠ .dK kv) → (upd H f (.frz od (.dK (dcV es)))) c = some o := fun h n => (upd_ne (nf h n)).trans h
    refine ⟨_, rfl, st.b, kd.C, st.dx, _, _, rfl, hl B.b (by intro kv z; cases z), O.cl, O.nf, bk_lk.2.2.1, _, rfl, st.fr, _, _, _, rfl, rfl, .inl (.inl (hl B.fr (by intro kv z; cases z))), atI_nat hfv, f, od, dcV es, rfl, upd_same, fun D0 hD0 => ?_⟩
    refine lc_it walk_items (fun i H' => Same (upd H f (.frz od (.dK (dcV es)))) H' ∧ ∃ (as : List Addr) (ts : List TI), H' D0 = some (.lst (as.map V.ref)) ∧ Paired (fun a t => SqT K H' a (t.items.map V.int)) as ts ∧ ts = (es.take i).map fun e => ⟨[e.2, (e.1 : Int)]⟩)
      ⟨same_new hD0, [], [], upd_same, .nil, rfl⟩ (fun i H' _ ⟨e, _⟩ => e _ _ upd_same) (fun i x Hc H' hi ⟨eS, as, ts, hL, hpr, hts⟩ y => ?_) (fun H' ⟨eS, as, ts, hL, hpr, hts⟩ => ?_)
    · obtain ⟨Tt, kx, vx, rfl, hTn, rfl, hk, hv⟩ := y
      rw [len_dc] at hi
      have he : es[i]? = some es[i] := List.getElem?_eq_getElem hi
      generalize es[i] = e at he
      have hd : (dcV es)[i]? = some (.inl (e.1 : Int), .int e.2) := by unfold dcV; rw [List.getElem?_map, he]; rfl
      dsimp only at hk hv
      rw [hd] at hk hv
      cases hk
      cases hv
      refine ⟨Tt, _, rfl, SqT.of upd_same, rfl, _, _, rfl, _, _, rfl, rfl, rfl, _, rfl, _, rfl, by show 2 ≤ sizeLine; decide, fun a ha => ?_⟩
      have e3 : Same Hc _ := (same_new hTn).trans (same_new (o := .tup [.int e.2, .int (e.1 : Int)]) ha)
      have hLl : as.length = i := by
        rw [Paired.length hpr, hts, List.length_map, List.length_take]
        omega
      refine ⟨_, e3 _ _ hL, ?_, same_put (eS.trans e3) hD0, as ++ [a], ts ++ [⟨[e.2, (e.1 : Int)]⟩], ?_, ?_, ?_⟩
      · rw [List.length_map, hLl]
        exact Nat.lt_of_lt_of_le hi (Nat.le_trans hes.len (Nat.le_trans B.n8 (by decide)))
      · rw [upd_same, List.map_append]; rfl
      · have e4 := (Fx.refl _).upd (o := .lst (as.map V.ref ++ [V.ref a])) (e3 _ _ hL) lst_nf
        exact pr_snoc (pr_imp hpr fun a t h => e4.sqT (same_sqT e3 h)) (e4.sqT (SqT.of upd_same))
      · rw [take_snoc he, List.map_append, ← hts]; rfl
    · have hlen : (dcV es).length = es.length := len_dc es
      rw [hlen, List.take_length] at hts
      have eF : Same H (upd H' f (.dK (dcV es))) := fun c o h => by
        by_cases hc : c = f
        · rw [hc] at h ⊢
          rw [hfd] at h
          rw [upd_same]; exact h
        · rw [upd_ne hc]
          exact eS c o ((upd_ne hc).trans h)
      have hfz : H' f = some (.frz od (.dK (dcV es))) := eS _ _ upd_same
      have hLf : D0 ≠ f := fun z => by rw [z, hfz] at hL; cases hL
      have sq : ∀ {a : Addr} {xs : List Int}, SqT K H' a (xs.map V.int) → SqT K (upd H' f (.dK (dcV es))) a (xs.map V.int) := fun {a xs} h => by
        rcases h with (h | ⟨o, h⟩) | h
        · exact .inl (.inl ((upd_ne (fun z => by rw [z, hfz] at h; cases h)).trans h))
        · exact .inl (.inr ⟨o, (upd_ne (fun z => by rw [z, hfz] at h; cases h)).trans h⟩)
        · exact .inr h
      refine ⟨hfz, D0, as, ts, rfl, rfl, .inl (.inl ((upd_ne hLf).trans hL)), pr_imp hpr fun a t h => sq h, fun hn => ?_, fun t r i b ht hb hm => ?_⟩
      · refine q0 (fun q => ?_) _ eF
        rw [hn] at hts
        have hes0 : es = [] := by
          have := congrArg List.length hts
          simp at this
          exact List.eq_nil_of_length_eq_zero this.symm
        cases hm : m p q with
        | none => rfl
        | some c =>
          have := (hes.is q c).mpr hm
          rw [hes0] at this
          cases this
      · have hall : ∀ y ∈ ts, y.items.length = 2 := fun y hy => by
          rw [hts] at hy
          obtain ⟨e, _, rfl⟩ := List.mem_map.mp hy
          rfl
        obtain ⟨m1, m2⟩ := minT_is 2 r t (hall t (by rw [ht]; exact List.mem_cons_self ..)) fun y hy => hall y (by rw [ht]; exact List.mem_cons_of_mem _ hy)
        rw [← ht, hts] at m1
        obtain ⟨e, he, em⟩ := List.mem_map.mp m1
        obtain ⟨t', ht', hsq⟩ := PR.paired_get hpr hb
        rw [hm] at ht'
        cases ht'
        rw [← em] at hsq m2
        refine q1 e.2 e.1 b _ ((hes.is _ _).mp he) (fun q' c' hq => ?_) eF (sq hsq)
        have h1 : (⟨[c', (q' : Int)]⟩ : TI) ∈ t :: r := by
          rw [← ht, hts]
          exact List.mem_map.mpr ⟨(q', c'), (hes.is _ _).mpr hq, rfl⟩
        have h2 := m2 _ h1
        have h3 : ¬ (c' < e.2 ∨ (c' = e.2 ∧ (q' : Int) < (e.1 : Int))) := fun z => by
          have := tlt2.mpr z
          rw [h2] at this
          cases this
        omega
end PP
end
section
set_option maxHeartbeats 4000000
namespace PP
open PySem PySem.Spec PyProof.Rows L2 PR
variable {P : Program} {w : World} {K : PySem.W.Frag} {mg : Str → Option Value} {base : Heap}

open LamX NdefX
/-! ### Painter's properties -/
def spPName (K : PySem.W.Frag) : Sp := fun vs H Q _ => ∃ (a : Addr) (p : PT), vs = [.ref a] ∧ PaintAt K H a p ∧ Q (.str p.name) H
def spPDay (K : PySem.W.Frag) : Sp := fun vs H Q _ => ∃ (a : Addr) (p : PT), vs = [.ref a] ∧ PaintAt K H a p ∧ Q (.int p.day) H
def spPPost (K : PySem.W.Frag) : Sp := fun vs H Q _ => ∃ (a : Addr) (p : PT), vs = [.ref a] ∧ PaintAt K H a p ∧ Q (.int p.post) H
def spPStride (K : PySem.W.Frag) : Sp := fun vs H Q _ => ∃ (a : Addr) (p : PT), vs = [.ref a] ∧ PaintAt K H a p ∧ Q (.int p.str) H
def spPWay (K : PySem.W.Frag) : Sp := fun vs H Q _ => ∃ (a : Addr) (p : PT), vs = [.ref a] ∧ PaintAt K H a p ∧ ∀ t H', Same H H' → SqT K H' t (wayV p.day p.post p.str) → Q (.ref t) H'
theorem sc_Painter_name : FnScope ["self"] ["self"] (defScope s_Painter_name) := ⟨rfl, rfl, rfl, by decide +kernel, rfl, by decide +kernel, by decide +kernel⟩
theorem ok_Painter_name (T : Txt K mg) : Fn P w K mg base 1 (pg K "Painter" "name") (spPName K) := by
  obtain ⟨fd, F⟩ := T.d_Painter_name
  refine okR F sc_Painter_name (fun vs H Q E h => ?_) (fun _ _ _ _ _ _ us hl => match us, hl with | [_], _ => rfl) (fun cdv A outer s H vs Q E hr h => ⟨_, (pss_one (ps_ret (pe_ix ix_tup (pe_fld (pv 0) rfl) pe_int (fun _ _ => rfl)))), ?_⟩)
  · obtain ⟨a, p, rfl, _⟩ := h; rfl
  · obtain ⟨a, p, rfl, ⟨dx, t, h1, h2, h3⟩, q⟩ := h
    exact ⟨_, rfl, a, _, dx, _, _, rfl, h1, T.c_Painter, T.a_Painter_parts, rfl, t, _, _, _, rfl, rfl, h2, rfl, q⟩
theorem sc_Painter_day : FnScope ["self"] ["self"] (defScope s_Painter_day) := ⟨rfl, rfl, rfl, by decide +kernel, rfl, by decide +kernel, by decide +kernel⟩
theorem ok_Painter_day (T : Txt K mg) : Fn P w K mg base 1 (pg K "Painter" "day") (spPDay K) := by
  obtain ⟨fd, F⟩ := T.d_Painter_day
  refine okR F sc_Painter_day (fun vs H Q E h => ?_) (fun _ _ _ _ _ _ us hl => match us, hl with | [_], _ => rfl) (fun cdv A outer s H vs Q E hr h => ⟨_, (pss_one (ps_ret (pe_ix ix_tup (pe_fld (pv 0) rfl) pe_int (fun _ _ => rfl)))), ?_⟩)
  · obtain ⟨a, p, rfl, _⟩ := h; rfl
  · obtain ⟨a, p, rfl, ⟨dx, t, h1, h2, h3⟩, q⟩ := h
    exact ⟨_, rfl, a, _, dx, _, _, rfl, h1, T.c_Painter, T.a_Painter_parts, rfl, t, _, _, _, rfl, rfl, h2, rfl, q⟩
theorem sc_Painter_post : FnScope ["self"] ["self"] (defScope s_Painter_post) := ⟨rfl, rfl, rfl, by decide +kernel, rfl, by decide +kernel, by decide +kernel⟩
theorem ok_Painter_post (T : Txt K mg) : Fn P w K mg base 1 (pg K "Painter" "post") (spPPost K) := by
  obtain ⟨fd, F⟩ := T.d_Painter_post
  refine okR F sc_Painter_post (fun vs H Q E h => ?_) (fun _ _ _ _ _ _ us hl => match us, hl with | [_], _ => rfl) (fun cdv A outer s H vs Q E hr h => ⟨_, (pss_one (ps_ret (pe_ix ix_tup (pe_fld (pv 0) rfl) pe_int (fun _ _ => rfl)))), ?_⟩)
  · obtain ⟨a, p, rfl, _⟩ := h; rfl
  · obtain ⟨a, p, rfl, ⟨dx, t, h1, h2, h3⟩, q⟩ := h
    exact ⟨_, rfl, a, _, dx, _, _, rfl, h1, T.c_Painter, T.a_Painter_parts, rfl, t, _, _, _, rfl, rfl, h2, rfl, q⟩
theorem sc_Painter_stride : FnScope ["self"] ["self"] (defScope s_Painter_stride) := ⟨rfl, rfl, rfl, by decide +kernel, rfl, by decide +kernel, by decide +kernel⟩
theorem ok_Painter_stride (T : Txt K mg) : Fn P w K mg base 1 (pg K "Painter" "stride") (spPStride K) := by
  obtain ⟨fd, F⟩ := T.d_Painter_stride
  refine okR F sc_Painter_stride (fun vs H Q E h => ?_) (fun _ _ _ _ _ _ us hl => match us, hl with | [_], _ => rfl) (fun cdv A outer s H vs Q E hr h => ⟨_, (pss_one (ps_ret (pe_ix ix_tup (pe_fld (pv 0) rfl) pe_int (fun _ _ => rfl)))), ?_⟩)
  · obtain ⟨a, p, rfl, _⟩ := h; rfl
  · obtain ⟨a, p, rfl, ⟨dx, t, h1, h2, h3⟩, q⟩ := h
    exact ⟨_, rfl, a, _, dx, _, _, rfl, h1, T.c_Painter, T.a_Painter_parts, rfl, t, _, _, _, rfl, rfl, h2, rfl, q⟩
theorem sc_Painter_way : FnScope ["self"] ["self"] (defScope s_Painter_way) := ⟨rfl, rfl, rfl, by decide +kernel, rfl, by decide +kernel, by decide +kernel⟩
theorem ok_Painter_way (T : Txt K mg) : Fn P w K mg base 1 (pg K "Painter" "way") (spPWay K) := by
  obtain ⟨fd, F⟩ := T.d_Painter_way
  refine okR F sc_Painter_way (fun vs H Q E h => ?_) (fun _ _ _ _ _ _ us hl => match us, hl with | [_], _ => rfl) (fun cdv A outer s H vs Q E hr h => ⟨_, (pss_one (ps_ret (pe_slice sl_tup (pe_fld (pv 0) rfl) (po_some pe_int) po_none))), ?_⟩)
  · obtain ⟨a, p, rfl, _⟩ := h; rfl
  · obtain ⟨a, p, rfl, ⟨dx, t, h1, h2, h3⟩, q⟩ := h
    refine ⟨_, rfl, a, _, dx, _, _, rfl, h1, T.c_Painter, T.a_Painter_parts, rfl, _, rfl, t, _, rfl, h2, ?_, fun p hp => ?_⟩
    · show ¬ (HT.sIx 4 0 (some 1) = 0 ∧ HT.sIx 4 4 none = 4)
      decide
    · exact q _ _ (same_new hp) (SqT.of upd_same)
/-! ### next_stop -/
def dayOf (ps : List PT) (i : Nat) : Int := match ps[i]? with
  | some p => p.day
  | none => 0
def NextIs (n : Nat) (day : Nat → Int) (lim : PM.Lims) (m : Ms) : Option PM.Stop → Prop
  | none => ∀ p, p < n → lim p = none → ∀ q, m p q = none
  | some x => x.2.1 < n ∧ lim x.2.1 = none ∧ m x.2.1 x.2.2.2 = some x.2.2.1 ∧ x.1 = day x.2.1 + x.2.2.1 ∧ ∀ p q c, p < n → lim p = none → m p q = some c → ¬ PM.lexLt (day p + c, p, c, q) x
def stopV (x : PM.Stop) : List V := [.int x.1, .int (x.2.1 : Nat), .int x.2.2.1, .int (x.2.2.2 : Nat)]
def tOf (x : PM.Stop) : TI := ⟨[x.1, (x.2.1 : Nat), x.2.2.1, (x.2.2.2 : Nat)]⟩
theorem tlt_stop {x y : PM.Stop} : tlt (tOf x) (tOf y) = true ↔ PM.lexLt x y := by
  unfold tOf PM.lexLt
  rw [tlt4]
  omega
structure Fnd (day : Nat → Int) (lim : PM.Lims) (m : Ms) (i : Nat) (ts : List TI) : Prop where
  fw : ∀ t ∈ ts, ∃ p c q, p < i ∧ lim p = none ∧ m p q = some c ∧ t = tOf (day p + c, p, c, q)
  bw : ∀ p, p < i → lim p = none → ∀ q c, m p q = some c → ∃ c' q', tOf (day p + c', p, c', q') ∈ ts ∧ m p q' = some c' ∧ (c' < c ∨ (c' = c ∧ q' ≤ q))
theorem Fnd.skip {day : Nat → Int} {lim : PM.Lims} {m : Ms} {i : Nat} {ts : List TI} (h : Fnd day lim m i ts) (hs : lim i = none → ∀ q, m i q = none) : Fnd day lim m (i + 1) ts := by
  refine ⟨fun t ht => ?_, fun p hp hl q c hm => ?_⟩
  · obtain ⟨p, c, q, h1, h2⟩ := h.fw t ht
    exact ⟨p, c, q, by omega, h2⟩
  · by_cases e : p = i
    · subst e
      rw [hs hl q] at hm
      cases hm
    · exact h.bw p (by omega) hl q c hm
theorem Fnd.more {day : Nat → Int} {lim : PM.Lims} {m : Ms} {i : Nat} {ts : List TI} (h : Fnd day lim m i ts) (hl : lim i = none) {c : Int} {q : Nat} (hm : m i q = some c) (hx : ∀ q' c', m i q' = some c' → c < c' ∨ (c = c' ∧ q ≤ q')) : Fnd day lim m (i + 1) (ts ++ [tOf (day i + c, i, c, q)]) := by
  refine ⟨fun t ht => ?_, fun p hp hl q1 c1 hm1 => ?_⟩
  · rcases List.mem_append.mp ht with ht | ht
    · obtain ⟨p, c, q, h1, h2⟩ := h.fw t ht
      exact ⟨p, c, q, by omega, h2⟩
    · exact ⟨i, c, q, by omega, hl, hm, List.mem_singleton.mp ht⟩
  · by_cases e : p = i
    · subst e
      refine ⟨c, q, List.mem_append_right _ (List.mem_singleton.mpr rfl), hm, ?_⟩
      have := hx q1 c1 hm1
      omega
    · obtain ⟨c', q', h1, h2⟩ := h.bw p (by omega) hl q1 c1 hm1
      exact ⟨c', q', List.mem_append_left _ h1, h2⟩
theorem Fnd.none {day : Nat → Int} {lim : PM.Lims} {m : Ms} {n : Nat} (h : Fnd day lim m n []) : NextIs n day lim m Option.none := fun p hp hl q => by
  cases hm : m p q with
  | none => rfl
  | some c =>
    obtain ⟨c', q', h1, _⟩ := h.bw p hp hl q c hm
    cases h1
theorem Fnd.least {day : Nat → Int} {lim : PM.Lims} {m : Ms} {n : Nat} {t : TI} {r : List TI} (h : Fnd day lim m n (t :: r)) : ∃ x, PySem.W.minOf t r = tOf x ∧ NextIs n day lim m (some x) := by
  have hall : ∀ y ∈ t :: r, y.items.length = 4 := fun y hy => by
    obtain ⟨p, c, q, _, _, _, rfl⟩ := h.fw y hy
    rfl
  obtain ⟨m1, m2⟩ := minT_is 4 r t (hall t (List.mem_cons_self ..)) fun y hy => hall y (List.mem_cons_of_mem _ hy)
  obtain ⟨p, c, q, h1, h2, h3, h4⟩ := h.fw _ m1
  refine ⟨_, h4, h1, h2, h3, rfl, fun p' q' c' hp' hl' hm' hlt => ?_⟩
  obtain ⟨c2, q2, g1, g2, g3⟩ := h.bw p' hp' hl' q' c' hm'
  have h5 := m2 _ g1
  rw [h4] at h5
  have h6 : PM.lexLt (day p' + c2, p', c2, q2) (day p + c, p, c, q) := by
    unfold PM.lexLt at hlt ⊢
    dsimp only at hlt ⊢
    omega
  rw [tlt_stop.mpr h6] at h5
  cases h5
def spNext (kd : Kd) (K : PySem.W.Frag) (ps : List PT) : Sp := fun vs H Q _ => ∃ (st : BS) (lim : PM.Lims) (m : Ms) (D : Nat → Nat → Prop) (L : Nat), vs = [.ref st.b] ∧ BkAt kd K H st ps lim m D L ∧
  (NextIs ps.length (dayOf ps) lim m none → ∀ H', Same H H' → Q .non H') ∧
  ∀ x a H', NextIs ps.length (dayOf ps) lim m (some x) → Same H H' → SqT K H' a (stopV x) → Q (.ref a) H'
theorem sc_Blocks_next_stop : FnScope ["self", "found", "place", "painter", "block"] ["self"] (defScope s_Blocks_next_stop) := ⟨rfl, rfl, rfl, by decide +kernel, rfl, by decide +kernel, by decide +kernel⟩
theorem ok_next_stop {T0 : List NTab} {kd : Kd} {ps : List PT} {k : Nat} (T : Txt K mg) (O : KindOk P w K mg base T0 kd ps k) : Fn P w K mg base 3 (He.ma K kd.C "next_stop") (spNext kd K ps) := by
  obtain ⟨fd, F⟩ := O.dn
  have G_first_of := ok_first_of T O
  have G_Painter_day := ok_Painter_day (P := P) (w := w) (base := base) T
  refine okR F sc_Blocks_next_stop (fun vs H Q E h => ?_) (fun _ _ _ _ _ _ us hl => match us, hl with | [_], _ => rfl) (fun cdv A outer s H vs Q E hr h => ⟨_, (pss_cons (ps_set (i := 1) sc_Blocks_next_stop.nd rfl (.inl rfl) (pe_lst pa_nil))
    (pss_cons (ps_for PassesOwn.never rfl (pi_enumT (by rfl) T.f_enumerate (pa_cons (pe_fld (pv 0) rfl) pa_nil)) (pg_tup rfl (pgs_cons (pg_name (i := 2) sc_Blocks_next_stop.nd rfl (.inl rfl)) (pgs_cons (pg_name (i := 3) sc_Blocks_next_stop.nd rfl (.inl rfl)) pgs_nil))) (pss_cons (ps_set (i := 4) sc_Blocks_next_stop.nd rfl (.inl rfl) (pe_ifExp (pt_cmpR op_isN (pe_ix ix_list (pe_fld (pv 0) rfl) (pv 2) (fun _ _ => rfl)) pe_non (nomark _)) (pe_methR (pv 0) O.cl O.m1 G_first_of (hr.mono (by decide)) pass0 (pa_cons (pv 2) pa_nil)) pe_non))
    (pss_one (ps_if (pt_cmpR op_notN (pv 4) pe_non (nomark _)) (pss_one (ps_expr (pe_bm PySem.F.plainAttrs_list PySem.F.slot_list_append PySem.F.type_list_append mt_append (pv 1) (pa_cons (pe_tup (pa_cons (pe_op op_add (pe_propR (pv 3) T.c_Painter T.p_Painter_day G_Painter_day (hr.mono (by decide))) (pe_ix ix_tup (pv 4) pe_int (fun _ _ => rfl))) (pa_cons (pv 2) (pa_cons (pe_ix ix_tup (pv 4) pe_int (fun _ _ => rfl)) (pa_cons (pe_ix ix_tup (pv 4) pe_int (fun _ _ => rfl)) pa_nil))))) pa_nil)))) pss_nil))))
    (pss_one (ps_ret (pe_callBK (cr_minT rfl hr.units) (by rfl) T.f_min (by decide +kernel) (pa_cons (pv 1) pa_nil) (pk_cons pe_non pk_nil)))))), ?_⟩)
  · obtain ⟨st, lim, m, D, L, rfl, _⟩ := h; rfl
  · obtain ⟨st, lim, m, D, L, rfl, B, q0, q1⟩ := h
    refine ⟨by show 0 ≤ sizeLine; decide, fun l hl => ?_⟩
    have e0 : Same H (upd H l (.lst [])) := same_new hl
    have B0 := B.off O (Off.same e0)
    refine ⟨_, rfl, st.b, kd.C, st.dx, _, _, rfl, B0.b, O.cl, O.nw, bk_lk.1, st.pt, _, rfl, B0.w, ?_⟩
    refine for_it walk_enumT (fun i σ H' => Same H H' ∧ ∃ (as : List Addr) (ts : List TI) (z1 z2 z3 : Option V), σ = [some (.ref st.b), some (.ref l), z1, z2, z3] ∧ H' l = some (.lst (as.map V.ref)) ∧ Paired (fun a t => SqT K H' a (t.items.map V.int)) as ts ∧ as.length ≤ i ∧ Fnd (dayOf ps) lim m i ts)
      ⟨e0, [], [], none, none, none, rfl, upd_same, .nil, Nat.le_refl _, ⟨fun t ht => (by cases ht), fun p hp => absurd hp (Nat.not_lt_zero p)⟩⟩ (fun i σ H' _ ⟨e, _⟩ => same_sqT e B.w) (fun i x σ Hc H' hi ⟨eS, as, ts, z1, z2, z3, eσ, hL, hpr, hle, hF⟩ y => ?_) (fun σ H' ⟨eS, as, ts, z1, z2, z3, eσ, hL, hpr, hle, hF⟩ => ?_)
    · subst eσ
      have hlen : (st.pas.map V.ref).length = ps.length := by rw [List.length_map, Paired.length B.pp]
      rw [hlen] at hi
      obtain ⟨Tt, kx, vx, rfl, hTn, rfl, hk, hv⟩ := y
      cases hk
      dsimp only at hv
      rw [List.getElem?_map] at hv
      obtain ⟨pa, hpa, e1⟩ := Option.map_eq_some_iff.mp hv
      subst e1
      obtain ⟨P0, hP0, hPA⟩ := PR.paired_get B.pp hpa
      have eT := eS.trans (same_new (o := .tup [.int (i : Int), .ref pa]) hTn)
      have BT := B.off O (Off.same eT)
      refine ⟨Tt, _, rfl, SqT.of upd_same, rfl, _, _, rfl, _, _, rfl, rfl, ?_⟩
      refine ⟨_, rfl, st.b, kd.C, st.dx, _, _, rfl, BT.b, O.cl, O.nl, bk_lk.2.1, _, rfl, st.lm, _, _, _, rfl, rfl, .inl (.inl BT.lm), atI_nat (limV_get hi), rfl, _, rfl, ?_⟩
      -- what the turn leaves when nothing is found
      have skip : ∀ H2, Same (upd Hc Tt (.tup [.int (i : Int), .ref pa])) H2 → (lim i = none → ∀ q, m i q = none) → Same H H2 ∧ ∃ (as : List Addr) (ts : List TI) (w1 w2 w3 : Option V), [some (V.ref st.b), some (V.ref l), some (V.int (i : Int)), some (V.ref pa), some V.non] = [some (.ref st.b), some (.ref l), w1, w2, w3] ∧
          H2 l = some (.lst (as.map V.ref)) ∧ Paired (fun a t => SqT K H2 a (t.items.map V.int)) as ts ∧ as.length ≤ i + 1 ∧ Fnd (dayOf ps) lim m (i + 1) ts := fun H2 e2 hs => by
        have e3 : Same Hc H2 := (same_new hTn).trans e2
        exact ⟨eS.trans e3, as, ts, _, _, _, rfl, e3 _ _ hL, pr_imp hpr fun a t h => same_sqT e3 h, by omega, hF.skip hs⟩
      cases hli : lim i with
      | some c0 => exact iteF ⟨_, rfl, rfl, _, rfl, iteF (skip _ (Same.refl _) fun z => by rw [hli] at z; cases z)⟩
      | none =>
        refine iteT ⟨_, rfl, st.b, st.dx, _, rfl, BT.b, bk_lk.2.2.2.2.2.1, _, rfl, st, lim, m, D, L, i, rfl, BT, hi, fun hn H2 e2 => ⟨_, rfl, rfl, _, rfl, iteF (skip _ e2 fun _ => hn)⟩, fun c q a H2 hm hx e2 hs => ?_⟩
        have e3 : Same Hc H2 := (same_new hTn).trans e2
        have hPA2 : PaintAt K H2 pa P0 := hPA.fx (Fx.same (eS.trans e3))
        obtain ⟨dxp, tp, hp1, _⟩ := id hPA2
        refine ⟨_, rfl, rfl, _, rfl, iteT ⟨_, rfl, .inl ⟨rfl, _, .inl (.inl (e3 _ _ hL))⟩, _, rfl, pa, dxp, _, rfl, hp1, pa, P0, rfl, hPA2, _, rfl, a, _, _, _, rfl, rfl, hs, rfl, _, _, rfl, rfl, _, rfl, _, rfl, a, _, _, _, rfl, rfl, hs, rfl, _, rfl, a, _, _, _, rfl, rfl, hs, rfl, by show 4 ≤ sizeLine; decide, fun t ht => ?_⟩⟩
        have e4 := e3.trans (same_new (o := .tup [.int (P0.day + c), .int (i : Int), .int c, .int (q : Int)]) ht)
        refine ⟨l, _, _, rfl, rfl, e4 _ _ hL, ?_, same_put (eS.trans e4) hl, as ++ [t], ts ++ [tOf (dayOf ps i + c, i, c, q)], _, _, _, rfl, ?_, ?_, ?_, hF.more hli hm hx⟩
        · rw [List.length_map]
          exact Nat.lt_of_le_of_lt hle (Nat.lt_of_lt_of_le hi (Nat.le_trans B.n8 (by decide)))
        · rw [upd_same, List.map_append]; rfl
        · have e5 := (Fx.refl _).upd (o := .lst (as.map V.ref ++ [V.ref t])) (e4 _ _ hL) lst_nf
          refine pr_snoc (pr_imp hpr fun a t h => e5.sqT (same_sqT e4 h)) (e5.sqT (SqT.of ?_))
          have ed : dayOf ps i = P0.day := by unfold dayOf; rw [hP0]
          rw [ed]
          exact upd_same
        · rw [List.length_append, List.length_singleton]; omega
    · subst eσ
      have hlen : (st.pas.map V.ref).length = ps.length := by rw [List.length_map, Paired.length B.pp]
      rw [hlen] at hF
      refine ⟨_, rfl, l, as, ts, rfl, rfl, .inl (.inl hL), hpr, fun hn => q0 (by rw [hn] at hF; exact hF.none) _ eS, fun t r i b ht hb hm => ?_⟩
      rw [ht] at hF
      obtain ⟨x, hx, hN⟩ := hF.least
      obtain ⟨t', ht', hsq⟩ := PR.paired_get hpr hb
      rw [hm] at ht'
      cases ht'
      rw [hx] at hsq
      exact q1 x b _ hN eS hsq
end PP
end
section
set_option maxHeartbeats 4000000
namespace PP
open PySem PySem.Spec PyProof.Rows L2 PR
variable {P : Program} {w : World} {K : PySem.W.Frag} {mg : Str → Option Value} {base : Heap}

open LamX NdefX
theorem limV_set {n : Nat} {lim : PM.Lims} {p : Nat} {c : Int} : (limV n lim).set p (.int c) = limV n (PM.setL lim p c) := by
  apply List.ext_getElem?
  intro i
  rw [List.getElem?_set]
  by_cases hi : i < n
  · rw [limV_get hi, limV_get hi]
    unfold PM.setL
    by_cases e : p = i
    · rw [if_pos e, limV_len, if_pos (by omega), if_pos e.symm]; rfl
    · rw [if_neg e, if_neg (fun z => e z.symm)]
  · have h1 : ∀ l : PM.Lims, (limV n l)[i]? = none := fun l => List.getElem?_eq_none (by rw [limV_len]; omega)
    rw [h1, h1]
    by_cases e : p = i
    · rw [if_pos e, limV_len, if_neg (by omega)]
    · rw [if_neg e]
section
variable {T : List NTab} {kd : Kd} {ps : List PT} {k L : Nat} {H H' : Hp} {st : BS} {lim : PM.Lims} {m : Ms} {D : Nat → Nat → Prop}
theorem BkAt.setl (O : KindOk P w K mg base T kd ps k) (B : BkAt kd K H st ps lim m D L) {p : Nat} {c : Int} (hc : kd.lok p c) : BkAt kd K (upd H st.lm (.lst (limV ps.length (PM.setL lim p c)))) st ps (PM.setL lim p c) m D L := by
  have e : Fx H (upd H st.lm (.lst (limV ps.length (PM.setL lim p c)))) := (Fx.refl H).upd B.lm lst_nf
  obtain ⟨b, w, pp, lm, fr, fl, fn, ffr, fd, ⟨kv, h1, h2, h3⟩, n8, lz, mz⟩ := B
  have ne : ∀ {a o}, H a = some o → (∀ xs, o ≠ .lst xs) → a ≠ st.lm := fun {a o} h n z => by rw [z, lm] at h; cases h; exact n _ rfl
  refine ⟨(upd_ne (ne b (by intro kv z; cases z))).trans b, e.sqT w, paints_fx e pp, upd_same, (upd_ne ffr).trans fr, fl, fn, ffr, fun i f hf => ?_, ⟨kv, (upd_ne (ne h1 (by intro kv z; cases z))).trans h1, h2, fun p q hd => ?_⟩, n8, fun a v ha hv => ?_, mz⟩
  · obtain ⟨es, a1, a2⟩ := fd i f hf
    exact ⟨es, (upd_ne (ne a1 (by intro kv z; cases z))).trans a1, a2⟩
  · obtain ⟨x, a, b⟩ := h3 p q hd
    exact ⟨x, a, O.cfx _ _ _ _ _ e b⟩
  · unfold PM.setL at hv
    by_cases e2 : a = p
    · rw [if_pos e2] at hv
      cases hv
      rw [e2]; exact hc
    · rw [if_neg e2] at hv
      exact lz a v ha hv
theorem BkAt.one (O : KindOk P w K mg base T kd ps k) (B : BkAt kd K H st ps lim m D L) {x : Addr} {xs : List V} {o : HO} (hx : H x = some (.lst xs)) (n1 : x ≠ st.lm) (n2 : x ≠ st.fr) : BkAt kd K (upd H x o) st ps lim m D L := by
  have e : Fx H (upd H x o) := (Fx.refl H).upd hx lst_nf
  obtain ⟨b, w, pp, lm, fr, fl, fn, ffr, fd, ⟨kv, h1, h2, h3⟩, n8, lz, mz⟩ := B
  have ne : ∀ {a o}, H a = some o → (∀ xs, o ≠ .lst xs) → a ≠ x := fun {a o} h n z => by rw [z, hx] at h; cases h; exact n _ rfl
  refine ⟨(upd_ne (ne b (by intro kv z; cases z))).trans b, e.sqT w, paints_fx e pp, (upd_ne (Ne.symm n1)).trans lm, (upd_ne (Ne.symm n2)).trans fr, fl, fn, ffr, fun i f hf => ?_, ⟨kv, (upd_ne (ne h1 (by intro kv z; cases z))).trans h1, h2, fun p q hd => ?_⟩, n8, lz, mz⟩
  · obtain ⟨es, a1, a2⟩ := fd i f hf
    exact ⟨es, (upd_ne (ne a1 (by intro kv z; cases z))).trans a1, a2⟩
  · obtain ⟨x, a, b⟩ := h3 p q hd
    exact ⟨x, a, O.cfx _ _ _ _ _ e b⟩
theorem BkAt.nS (B : BkAt kd K H st ps lim m D L) {x : Addr} (hx : H x = none) : ¬ st.S x ∧ x ≠ st.lm ∧ x ≠ st.fr := by
  refine ⟨fun s => ?_, fun e => ?_, fun e => ?_⟩
  · rcases s with rfl | rfl | s
    · rw [B.lm] at hx; cases hx
    · obtain ⟨kv, h1, _⟩ := B.cr
      rw [h1] at hx; cases hx
    · obtain ⟨i, hi⟩ := List.mem_iff_getElem?.mp s
      obtain ⟨es, h1, _⟩ := B.fd i x hi
      rw [h1] at hx; cases hx
  · rw [e, B.lm] at hx; cases hx
  · rw [e, B.fr] at hx; cases hx
end
/-! ### settle -/
def mAfter (kd : Kd) (lim : PM.Lims) (m : Ms) (p : Nat) (c : Int) (i : Nat) : Ms := fun a b => if b = p ∧ a < i ∧ a ≠ p ∧ lim a = none then kd.fb a p (some c) else m a b
def spSettle (kd : Kd) (K : PySem.W.Frag) (ps : List PT) (T : List NTab) : Sp := fun vs H Q _ => ∃ (st : BS) (lim : PM.Lims) (m : Ms) (D : Nat → Nat → Prop) (L p : Nat) (c : Int), vs = [.ref st.b, .int p, .int c] ∧ BkAt kd K H st ps lim m D L ∧ TabsN T H ∧ p < ps.length ∧ kd.lok p c ∧
  (∀ a, a < ps.length → a ≠ p → D a p) ∧ ∀ H', Off st.S H H' → TabsN T H' → BkAt kd K H' st ps (PM.setL lim p c) (mAfter kd lim m p c ps.length) D L → Q .non H'
theorem sc_Blocks_settle : FnScope ["self", "place", "count", "other_place", "known"] ["self", "place", "count"] (defScope s_Blocks_settle) := ⟨rfl, rfl, rfl, by decide +kernel, rfl, by decide +kernel, by decide +kernel⟩
theorem ne_nat {a b : Nat} : (!decide (V.int (a : Int) = V.int (b : Int))) = decide (a ≠ b) := by
  by_cases h : a = b
  · subst h; simp
  · have : ¬ V.int (a : Int) = V.int (b : Int) := fun e => h (by have := V.int.inj e; omega)
    rw [decide_eq_false this, decide_eq_true h]; rfl
theorem ok_settle {T0 : List NTab} {kd : Kd} {ps : List PT} {k : Nat} (T : Txt K mg) (O : KindOk P w K mg base T0 kd ps k) : Fn P w K mg base (k + 2) (He.ma K kd.C "settle") (spSettle kd K ps T0) := by
  obtain ⟨fd, F⟩ := O.ds
  have G_look := ok_look O
  refine okR F sc_Blocks_settle (fun vs H Q E h => ?_) (fun _ _ _ _ _ _ us hl => match us, hl with | [_, _, _], _ => rfl) (fun cdv A outer s H vs Q E hr h => ⟨_, (pss_cons (ps_asg (pv 2) (pg_sub (pe_fld (pv 0) rfl) (pv 1) set_list))
    (pss_one (ps_for PassesOwn.never rfl (pi_enum (by rfl) T.f_enumerate (pa_cons (pe_fld (pv 0) rfl) pa_nil)) (pg_tup rfl (pgs_cons (pg_name (i := 3) sc_Blocks_settle.nd rfl (.inl rfl)) (pgs_cons (pg_name (i := 4) sc_Blocks_settle.nd rfl (.inl rfl)) pgs_nil))) (pss_one (ps_if (PW.pt (pw_and (pt_cmpR op_ne (pv 3) (pv 1) (nomark _)) (pw_and1 (pt_cmpR op_isN (pv 4) pe_non (nomark _))))) (pss_one (ps_expr (pe_methR (pv 0) O.cl O.ml G_look hr pass0 (pa_cons (pv 3) (pa_cons (pv 1) pa_nil))))) pss_nil))))), ?_⟩)
  · obtain ⟨st, lim, m, D, L, p, c, rfl, _⟩ := h; rfl
  · obtain ⟨st, lim, m, D, L, p, c, rfl, B, tb, hp, hc, hD, hk⟩ := h
    have hix : ixN (limV ps.length lim).length (p : Int) = some p := by
      unfold ixN
      rw [limV_len, if_pos (by omega), if_pos (by omega)]
      simp
    refine ⟨_, rfl, _, rfl, st.b, kd.C, st.dx, _, _, rfl, B.b, O.cl, O.nl, bk_lk.2.1, _, rfl, st.lm, _, _, p, rfl, rfl, B.lm, hix, ?_⟩
    rw [limV_set]
    have B1 := B.setl O hc
    have o1 : Off st.S H (upd H st.lm (.lst (limV ps.length (PM.setL lim p c)))) := (Off.refl _ _).upd (.inl rfl)
    have t1 := tabs_lst (o := .lst (limV ps.length (PM.setL lim p c))) tb B.lm
    refine ⟨_, rfl, st.b, kd.C, st.dx, _, _, rfl, B1.b, O.cl, O.nl, bk_lk.2.1, st.lm, _, rfl, .inl (.inl B1.lm), ?_⟩
    refine for_it walk_enum (fun i σ H' => Off st.S H H' ∧ TabsN T0 H' ∧ BkAt kd K H' st ps (PM.setL lim p c) (mAfter kd lim m p c i) D L ∧ ∃ (z1 z2 : Option V), σ = [some (.ref st.b), some (.int p), some (.int c), z1, z2])
      ⟨o1, t1, ?_, _, _, rfl⟩ (fun i σ H' _ ⟨_, _, b, _⟩ => .inl (.inl b.lm)) (fun i x σ Hc H' hi ⟨oS, tS, BS, z1, z2, eσ⟩ y => ?_) (fun σ H' ⟨oS, tS, BS, z1, z2, eσ⟩ => ?_)
    · have e : mAfter kd lim m p c 0 = m := by
        funext a b
        unfold mAfter
        rw [if_neg (by omega)]
      rw [e]; exact B1
    · subst eσ
      rw [limV_len] at hi
      obtain ⟨Tt, kx, vx, rfl, hTn, rfl, hk1, hv⟩ := y
      cases hk1
      dsimp only at hv
      rw [limV_get hi] at hv
      cases hv
      have eT : Ex Hc (upd Hc Tt (.tup [.int (i : Int), oV (PM.setL lim p c i)])) := Off.same (same_new hTn)
      have BT := BS.off O eT
      have oT : Off st.S H _ := oS.trans eT.ex
      have tT := tabs_new (o := .tup [.int (i : Int), oV (PM.setL lim p c i)]) tS hTn
      refine ⟨Tt, _, rfl, SqT.of upd_same, rfl, _, _, rfl, _, _, rfl, rfl, ?_⟩
      have next : mAfter kd lim m p c (i + 1) = mAfter kd lim m p c i ∨ True := .inr trivial
      by_cases hip : i = p
      · subst hip
        have e : mAfter kd lim m i c (i + 1) = mAfter kd lim m i c i := by
          funext a b
          unfold mAfter
          by_cases q : b = i ∧ a < i + 1 ∧ a ≠ i ∧ lim a = none
          · rw [if_pos q, if_pos ⟨q.1, by omega, q.2.2⟩]
          · rw [if_neg q, if_neg (fun z => q ⟨z.1, by omega, z.2.2⟩)]
        refine ⟨_, rfl, _, rfl, rfl, _, rfl, ?_⟩
        rw [ne_nat, decide_eq_false (fun z => z rfl)]
        rw [← e] at BT
        exact iteF ⟨oT, tT, BT, _, _, rfl⟩
      · refine ⟨_, rfl, _, rfl, rfl, _, rfl, ?_⟩
        rw [ne_nat, decide_eq_true hip]
        have el : PM.setL lim p c i = lim i := if_neg hip
        refine ⟨_, rfl, rfl, _, rfl, ?_⟩
        rw [el] at BT oT tT ⊢
        cases hl : lim i with
        | some v =>
          have e : mAfter kd lim m p c (i + 1) = mAfter kd lim m p c i := by
            funext a b
            unfold mAfter
            by_cases q : b = p ∧ a < i + 1 ∧ a ≠ p ∧ lim a = none
            · have : a ≠ i := fun z => by rw [z, hl] at q; exact nomatch q.2.2.2
              rw [if_pos q, if_pos ⟨q.1, by omega, q.2.2⟩]
            · rw [if_neg q, if_neg (fun z => q ⟨z.1, by omega, z.2.2⟩)]
          rw [← e] at BT
          rw [hl] at BT oT tT
          exact ⟨oT, tT, BT, _, _, rfl⟩
        | none =>
          rw [hl] at BT oT tT
          refine ⟨_, rfl, st.b, st.dx, _, rfl, BT.b, bk_lk.2.2.2.2.1, _, rfl, _, rfl, st, PM.setL lim p c, mAfter kd lim m p c i, D, L, i, p, rfl, BT, tT, hi, hp, hip, hD i hi hip, fun H2 o2 t2 B2 => ?_⟩
          have e : setMM (mAfter kd lim m p c i) i p (kd.fb i p (PM.setL lim p c p)) = mAfter kd lim m p c (i + 1) := by
            funext a b
            unfold setMM setM mAfter PM.setL
            rw [if_pos rfl]
            by_cases ha : a = i
            · subst ha
              rw [if_pos rfl]
              by_cases hb : b = p
              · rw [if_pos hb, if_pos ⟨hb, by omega, hip, hl⟩]
              · rw [if_neg hb, if_neg (fun z => hb z.1), if_neg (fun z => hb z.1)]
            · rw [if_neg ha]
              by_cases q : b = p ∧ a < i + 1 ∧ a ≠ p ∧ lim a = none
              · rw [if_pos q, if_pos ⟨q.1, by omega, q.2.2⟩]
              · rw [if_neg q, if_neg (fun z => q ⟨z.1, by omega, z.2.2⟩)]
          rw [e] at B2
          exact ⟨oT.trans o2, t2, B2, _, _, rfl⟩
    · rw [limV_len] at BS
      exact hk _ oS tS BS
end PP
end
section
set_option maxHeartbeats 4000000
namespace PP
open PySem PySem.Spec PyProof.Rows L2 PR
variable {P : Program} {w : World} {K : PySem.W.Frag} {mg : Str → Option Value} {base : Heap}

open LamX NdefX
/-! ### all_stops -/
def cntL (n : Nat) (lim : PM.Lims) : Nat := ((List.range n).filter fun i => (lim i).isNone).length
theorem cntL_le {n : Nat} {lim : PM.Lims} : cntL n lim ≤ n := by
  have := List.length_filter_le (fun i => (lim i).isNone) (List.range n)
  rw [List.length_range] at this
  exact this
theorem cntL_lt {n : Nat} {lim : PM.Lims} {p : Nat} {c : Int} (hp : p < n) (hl : lim p = none) : cntL n (PM.setL lim p c) < cntL n lim := by
  unfold cntL
  have key : ∀ l : List Nat, (l.filter fun i => (PM.setL lim p c i).isNone).length ≤ (l.filter fun i => (lim i).isNone).length ∧ (p ∈ l → (l.filter fun i => (PM.setL lim p c i).isNone).length < (l.filter fun i => (lim i).isNone).length) := fun l => by
    induction l with
    | nil => exact ⟨Nat.le_refl _, fun h => by cases h⟩
    | cons a r ih =>
      obtain ⟨i1, i2⟩ := ih
      by_cases e : a = p
      · subst e
        have h1 : (PM.setL lim a c a).isNone = false := by unfold PM.setL; rw [if_pos rfl]; rfl
        have h2 : (lim a).isNone = true := by rw [hl]; rfl
        rw [List.filter_cons, List.filter_cons, h1, h2]
        simp only [Bool.false_eq_true, if_false, if_true, List.length_cons]
        exact ⟨by omega, fun _ => by omega⟩
      · have h1 : PM.setL lim p c a = lim a := if_neg e
        rw [List.filter_cons, List.filter_cons, h1]
        by_cases h2 : (lim a).isNone = true
        · rw [if_pos h2, if_pos h2, List.length_cons, List.length_cons]
          exact ⟨by omega, fun h => by rcases List.mem_cons.mp h with z | z; · exact absurd z.symm e
                                       · have := i2 z; omega⟩
        · rw [if_neg h2, if_neg h2]
          exact ⟨i1, fun h => by rcases List.mem_cons.mp h with z | z; · exact absurd z.symm e
                                 · exact i2 z⟩
  exact (key _).2 (List.mem_range.mpr hp)
def Cons (n : Nat) (fb : Nat → Nat → Option Int → Option Int) (own : Nat → Option Int) (lim : PM.Lims) (m : Ms) : Prop := ∀ p, p < n → lim p = none → ∀ q, m p q = PM.Bl n fb own lim p q
theorem next_is {n : Nat} {day : Nat → Int} {fb : Nat → Nat → Option Int → Option Int} {own : Nat → Option Int} {lim : PM.Lims} {m : Ms} (hC : Cons n fb own lim m) {r : Option PM.Stop} (h : NextIs n day lim m r) : PM.IsNext n day fb own lim r := by
  cases r with
  | none => exact fun p hp hl q => by rw [← hC p hp hl q]; exact h p hp hl q
  | some x =>
    obtain ⟨h1, h2, h3, h4, h5⟩ := h
    have h6 := h3
    rw [hC _ h1 h2] at h6
    exact ⟨h1, PM.Bl_lt h1 h6, h2, h6, h4, fun p q c hp _ hl hb => h5 p q c hp hl (by rw [hC p hp hl]; exact hb)⟩
theorem cons_step {kd : Kd} {n : Nat} {own : Nat → Option Int} {lim : PM.Lims} {m : Ms} {p : Nat} {c : Int} (hC : Cons n kd.fb own lim m) (hp : p < n) : Cons n kd.fb own (PM.setL lim p c) (mAfter kd lim m p c n) := by
  intro a ha hl b
  have hap : a ≠ p := fun z => by rw [z] at hl; unfold PM.setL at hl; rw [if_pos rfl] at hl; cases hl
  have hla : lim a = none := by unfold PM.setL at hl; rw [if_neg hap] at hl; exact hl
  unfold mAfter
  by_cases hb : b = p
  · rw [if_pos ⟨hb, ha, hap, hla⟩]
    unfold PM.Bl PM.setL
    rw [if_neg (fun z => hap (by rw [← z, hb])), hb, if_pos hp, if_pos rfl]
  · rw [if_neg (fun z => hb z.1), hC a ha hla b]
    unfold PM.Bl
    have e : PM.setL lim p c b = lim b := if_neg hb
    rw [e]
def NextV (K : PySem.W.Frag) (H : Hp) (r : Option PM.Stop) (v : V) : Prop := match r with
  | none => v = .non
  | some x => ∃ a, v = .ref a ∧ SqT K H a (stopV x)
def spNext2 (kd : Kd) (K : PySem.W.Frag) (ps : List PT) : Sp := fun vs H Q _ => ∃ (st : BS) (lim : PM.Lims) (m : Ms) (D : Nat → Nat → Prop) (L : Nat), vs = [.ref st.b] ∧ BkAt kd K H st ps lim m D L ∧
  ∀ r v H', Same H H' → NextIs ps.length (dayOf ps) lim m r → NextV K H' r v → Q v H'
theorem ok_next2 {T0 : List NTab} {kd : Kd} {ps : List PT} {k : Nat} (T : Txt K mg) (O : KindOk P w K mg base T0 kd ps k) : Fn P w K mg base 3 (He.ma K kd.C "next_stop") (spNext2 kd K ps) :=
  (ok_next_stop T O).imp fun vs H Q E ⟨st, lim, m, D, L, e, B, q⟩ => ⟨st, lim, m, D, L, e, B, fun hn H' e => q none _ H' e hn rfl, fun x a H' hx e hs => q (some x) _ H' e hx ⟨a, rfl, hs⟩⟩
def spAll (kd : Kd) (K : PySem.W.Frag) (ps : List PT) (T : List NTab) (own : Nat → Option Int) : Sp := fun vs H Q _ => ∃ (st : BS) (lim : PM.Lims) (m : Ms) (D : Nat → Nat → Prop) (L : Nat), vs = [.ref st.b] ∧ BkAt kd K H st ps lim m D L ∧ TabsN T H ∧
  (∀ a b, a < ps.length → b < ps.length → a ≠ b → D a b) ∧ Cons ps.length kd.fb own lim m ∧
  ∀ H' l as stops, Off st.S H H' → TabsN T H' → H l = none → H' l = some (.lst (as.map V.ref)) → Paired (fun a x => SqT K H' a (stopV x)) as stops → PM.Run ps.length (dayOf ps) kd.fb own lim stops → Q (.ref l) H'
theorem sc_Blocks_all_stops : FnScope ["self", "found", "stop", "day", "place", "count", "blocker"] ["self"] (defScope s_Blocks_all_stops) := ⟨rfl, rfl, rfl, by decide +kernel, rfl, by decide +kernel, by decide +kernel⟩
theorem ok_all_stops {T0 : List NTab} {kd : Kd} {ps : List PT} {k : Nat} {own : Nat → Option Int} (T : Txt K mg) (O : KindOk P w K mg base T0 kd ps k) : Fn P w K mg base (k + 4) (He.ma K kd.C "all_stops") (spAll kd K ps T0 own) := by
  obtain ⟨fd, F⟩ := O.da
  have G_next := ok_next2 T O
  have G_settle := ok_settle T O
  refine okR F sc_Blocks_all_stops (fun vs H Q E h => ?_) (fun _ _ _ _ _ _ us hl => match us, hl with | [_], _ => rfl) (fun cdv A outer s H vs Q E hr h => ⟨_, (pss_cons (ps_par (i := 1) (j := 2) (by rfl) sc_Blocks_all_stops.nd rfl rfl (by decide) rfl rfl (pa_cons (pe_lst pa_nil) (pa_cons (pe_methR0 (pv 0) O.cl O.mn G_next (hr.mono (Nat.le_add_left _ _))) pa_nil)) (by rfl))
    (pss_cons (ps_while PassesOwn.never (pt_cmpR op_notN (pv 2) pe_non (nomark _)) (pss_cons (ps_expr (pe_bm PySem.F.plainAttrs_list PySem.F.slot_list_append PySem.F.type_list_append mt_append (pv 1) (pa_cons (pv 2) pa_nil)))
    (pss_cons (ps_asg (pv 2) (pg_tup rfl (pgs_cons (pg_name (i := 3) sc_Blocks_all_stops.nd rfl (.inl rfl)) (pgs_cons (pg_name (i := 4) sc_Blocks_all_stops.nd rfl (.inl rfl)) (pgs_cons (pg_name (i := 5) sc_Blocks_all_stops.nd rfl (.inl rfl)) (pgs_cons (pg_name (i := 6) sc_Blocks_all_stops.nd rfl (.inl rfl)) pgs_nil))))))
    (pss_cons (ps_expr (pe_methR (pv 0) O.cl O.ms G_settle (hr.mono (Nat.le_succ _)) pass0 (pa_cons (pv 4) (pa_cons (pv 5) pa_nil))))
    (pss_one (ps_set (i := 2) sc_Blocks_all_stops.nd rfl (.inl rfl) (pe_methR0 (pv 0) O.cl O.mn G_next (hr.mono (Nat.le_add_left _ _)))))))))
    (pss_one (ps_ret (pv 1))))), ?_⟩)
  · obtain ⟨st, lim, m, D, L, rfl, _⟩ := h; rfl
  · obtain ⟨st, lim0, m0, D, L, rfl, B0, tb, hD, hC0, hk⟩ := h
    refine ⟨by show 0 ≤ sizeLine; decide, fun l hl => ?_⟩
    obtain ⟨nS, nl, nf⟩ := B0.nS hl
    have e0 : Same H (upd H l (.lst [])) := same_new hl
    have B1 := B0.off O (Off.same e0)
    have tb1 := tabs_same tb e0
    refine ⟨_, rfl, st.b, st.dx, _, rfl, B1.b, bk_lk.2.2.2.2.2.2.2.1, st, lim0, m0, D, L, rfl, B1, fun r v H1 e1 hN hV => ⟨_, _, rfl, ?_⟩⟩
    refine ⟨fun k σ H' => ∃ (lim : PM.Lims) (m : Ms) (as : List Addr) (stops : List PM.Stop) (r : Option PM.Stop) (v : V) (z1 z2 z3 z4 : Option V), k = cntL ps.length lim ∧ σ = [some (.ref st.b), some (.ref l), some v, z1, z2, z3, z4] ∧ Off st.S H H' ∧ TabsN T0 H' ∧ BkAt kd K H' st ps lim m D L ∧
        Cons ps.length kd.fb own lim m ∧ H' l = some (.lst (as.map V.ref)) ∧ Paired (fun a x => SqT K H' a (stopV x)) as stops ∧ as.length + cntL ps.length lim ≤ ps.length ∧ (∀ rest, PM.Run ps.length (dayOf ps) kd.fb own lim rest → PM.Run ps.length (dayOf ps) kd.fb own lim0 (stops ++ rest)) ∧
        NextIs ps.length (dayOf ps) lim m r ∧ NextV K H' r v,
      ⟨_, lim0, m0, [], [], r, v, _, _, _, _, rfl, rfl, (Off.same e0).trans (Off.same e1), tabs_same tb1 e1, B1.off O (Off.same e1), hC0, e1 _ _ upd_same, .nil, by rw [List.length_nil, Nat.zero_add]; exact cntL_le, fun rest h => h, hN, hV⟩, ?_⟩
    rintro k1 σ H2 ⟨lim, m, as, stops, r, v, z1, z2, z3, z4, ek, eσ, o2, t2, B2, hC, hL, hpr, hle, hrun, hN, hV⟩
    subst eσ
    refine ⟨_, rfl, rfl, _, rfl, ?_⟩
    cases r with
    | none =>
      cases (show v = V.non from hV)
      exact iteF ⟨_, rfl, hk _ l as stops o2 t2 hl hL hpr (by have := hrun [] (.done (next_is hC hN)); rw [List.append_nil] at this; exact this)⟩
    | some x =>
      obtain ⟨a, rfl, hs⟩ := hV
      obtain ⟨hp, hlp, hmp, _, _⟩ := id hN
      have hcl := cntL_lt (c := x.2.2.1) hp hlp
      refine iteT ⟨fun σ' H' => ∃ m', m' < k1 ∧ _, fun σ' H' h => h, _, rfl, .inl ⟨rfl, _, .inl (.inl hL)⟩, _, rfl, l, _, _, rfl, rfl, hL, ?_, ?_⟩
      · rw [List.length_map]
        exact Nat.lt_of_lt_of_le (by have := B2.n8; omega : as.length < 8 + 1) (by decide)
      have eA := (Fx.refl H2).upd (o := .lst (as.map V.ref ++ [V.ref a])) hL lst_nf
      have B3 := B2.one O (o := .lst (as.map V.ref ++ [V.ref a])) hL nl nf
      have o3 : Off st.S H (upd H2 l (.lst (as.map V.ref ++ [V.ref a]))) := o2.new hl
      have t3 := tabs_lst (o := .lst (as.map V.ref ++ [V.ref a])) t2 hL
      have hs3 := eA.sqT hs
      refine ⟨_, rfl, a, _, rfl, hs3, rfl, _, _, rfl, _, _, rfl, _, _, rfl, _, _, rfl, rfl, ?_⟩
      refine ⟨_, rfl, st.b, st.dx, _, rfl, B3.b, bk_lk.2.2.2.2.2.2.2.2.1, _, rfl, _, rfl, st, lim, m, D, L, x.2.1, x.2.2.1, rfl, B3, t3, hp, B2.mz _ _ _ hp hmp, fun b hb hne => hD b x.2.1 hb hp hne, fun H4 o4 t4 B4 => ?_⟩
      have hL4 : H4 l = some (.lst (as.map V.ref ++ [V.ref a])) := o4 _ _ upd_same (by intro ps z; cases z) nS
      have f4 : Fx (upd H2 l (.lst (as.map V.ref ++ [V.ref a]))) H4 := B3.fx o4
      refine ⟨_, rfl, st.b, st.dx, _, rfl, B4.b, bk_lk.2.2.2.2.2.2.2.1, st, _, _, D, L, rfl, B4, fun r' v' H5 e5 hN' hV' => ?_⟩
      refine ⟨_, by rw [ek]; exact hcl, PM.setL lim x.2.1 x.2.2.1, _, as ++ [a], stops ++ [x], r', v', _, _, _, _, rfl, rfl, (o3.trans o4).trans (Off.same e5), tabs_same t4 e5, B4.off O (Off.same e5), cons_step hC hp, ?_, ?_, ?_, fun rest h => ?_, hN', hV'⟩
      · rw [List.map_append]; exact e5 _ _ hL4
      · exact pr_snoc (pr_imp hpr fun a t h => same_sqT e5 (f4.sqT (eA.sqT h))) (same_sqT e5 (f4.sqT hs3))
      · rw [List.length_append, List.length_singleton]; omega
      · rw [List.append_assoc]
        exact hrun _ (.step (next_is hC hN) h)
end PP
end
section
set_option maxHeartbeats 4000000
namespace PP
open PySem PySem.Spec PyProof.Rows L2 PR
variable {P : Program} {w : World} {K : PySem.W.Frag} {mg : Str → Option Value} {base : Heap}

open LamX NdefX
theorem But.off {x : Addr} {H H' : Hp} (e : But x H H') : Off (fun c => c = x) H H' := fun c o h _ n => e c o h n
theorem But.none {x c : Addr} {H H' : Hp} (e : But x H H') (n : c ≠ x) (h : H' c = none) : H c = Option.none := by
  cases q : H c with
  | none => rfl
  | some u => rw [e c u q n] at h; cases h
/-! ### Blocks.__init__, of whichever class -/
def preF (ar : Option Int) : Fl := match ar with
  | none => []
  | some n => [("around", .int n)]
def f1 (ar : Option Int) (pt : Addr) : Fl := putF "walkers" (.ref pt) (preF ar)
def f2 (ar : Option Int) (pt lm : Addr) : Fl := putF "limits" (.ref lm) (f1 ar pt)
def f3 (ar : Option Int) (pt lm fr : Addr) : Fl := putF "firsts" (.ref fr) (f2 ar pt lm)
theorem f4_is {ar : Option Int} {pt lm fr cr : Addr} : putF "crossings" (.ref cr) (f3 ar pt lm fr) = bkF ar pt lm fr cr := by cases ar <;> rfl
theorem f_len {ar : Option Int} {pt lm fr : Addr} : (preF ar).length < 1000 ∧ (f1 ar pt).length < 1000 ∧ (f2 ar pt lm).length < 1000 ∧ (f3 ar pt lm fr).length < 1000 := by
  cases ar
  · exact ⟨(by decide : (0 : Nat) < 1000), (by decide : (1 : Nat) < 1000), (by decide : (2 : Nat) < 1000), (by decide : (3 : Nat) < 1000)⟩
  · exact ⟨(by decide : (1 : Nat) < 1000), (by decide : (2 : Nat) < 1000), (by decide : (3 : Nat) < 1000), (by decide : (4 : Nat) < 1000)⟩
theorem limV_none {n : Nat} : limV n (fun _ => none) = List.replicate n V.non := by
  unfold limV
  simp [oV, List.map_const']
def Dij (n i j : Nat) (p q : Nat) : Prop := (p < i ∨ (p = i ∧ q < j)) ∧ p ≠ q ∧ p < n ∧ q < n
instance (n i j p q : Nat) : Decidable (Dij n i j p q) := by unfold Dij; infer_instance
def mij (kd : Kd) (n i j : Nat) : Ms := fun p q => if Dij n i j p q then kd.fb p q none else none
section
variable {T : List NTab} {kd : Kd} {ps : List PT} {k L : Nat} {H H' : Hp} {st : BS} {lim : PM.Lims} {m : Ms} {D : Nat → Nat → Prop}
theorem key2 {a b p q : Nat} : ([.inl (a : Int), .inl (b : Int)] : List Key) = [.inl (p : Int), .inl (q : Int)] ↔ a = p ∧ b = q := by
  constructor
  · intro h
    injection h with h1 h2
    injection h2 with h3 h4
    exact ⟨key_nat.mp h1, key_nat.mp h3⟩
  · rintro ⟨rfl, rfl⟩; rfl
theorem BkAt.addc (O : KindOk P w K mg base T kd ps k) (B : BkAt kd K H st ps lim m D L) {kv : List (List Key × V)} {p q : Nat} {x : Addr} (hcr : H st.cr = some (.dT kv)) (hCA : kd.CA H x p q) :
    BkAt kd K (upd H st.cr (.dT (putK kv [.inl (p : Int), .inl (q : Int)] (.ref x)))) st ps lim m (fun a b => D a b ∨ (a = p ∧ b = q)) (L + 1) := by
  have e : Fx H (upd H st.cr (.dT (putK kv [.inl (p : Int), .inl (q : Int)] (.ref x)))) := (Fx.refl H).upd hcr id
  obtain ⟨b, w, pp, lm, fr, fl, fn, ffr, fd, ⟨kv', h1, h2, h3⟩, n8, lz, mz⟩ := B
  rw [hcr] at h1
  cases h1
  have ne : ∀ {a o}, H a = some o → (∀ xs, o ≠ .dT xs) → a ≠ st.cr := fun {a o} h n z => by rw [z, hcr] at h; cases h; exact n _ rfl
  refine ⟨(upd_ne (ne b (by intro kv z; cases z))).trans b, e.sqT w, paints_fx e pp, (upd_ne (ne lm (by intro kv z; cases z))).trans lm, (upd_ne (ne fr (by intro kv z; cases z))).trans fr, fl, fn, ffr, fun i f hf => ?_, ⟨_, upd_same, Nat.le_trans (length_putK ..) (Nat.succ_le_succ h2), fun a c hd => ?_⟩, n8, lz, mz⟩
  · obtain ⟨es, a1, a2⟩ := fd i f hf
    exact ⟨es, (upd_ne (ne a1 (by intro kv z; cases z))).trans a1, a2⟩
  · rw [valV_put]
    by_cases e2 : a = p ∧ c = q
    · rw [if_pos (key2.mpr e2)]
      obtain ⟨rfl, rfl⟩ := e2
      exact ⟨x, rfl, O.cfx _ _ _ _ _ e hCA⟩
    · rw [if_neg (fun z => e2 (key2.mp z))]
      obtain ⟨y, h4, h5⟩ := h3 a c (hd.resolve_right e2)
      exact ⟨y, h4, O.cfx _ _ _ _ _ e h5⟩
theorem BkAt.weak (B : BkAt kd K H st ps lim m D L) {D' : Nat → Nat → Prop} {L' : Nat} (hD : ∀ p q, D' p q → D p q) (hL : L ≤ L') : BkAt kd K H st ps lim m D' L' := by
  obtain ⟨b, w, pp, lm, fr, fl, fn, ffr, fd, ⟨kv', h1, h2, h3⟩, n8, lz, mz⟩ := B
  exact ⟨b, w, pp, lm, fr, fl, fn, ffr, fd, ⟨kv', h1, Nat.le_trans h2 hL, fun p q hd => h3 p q (hD p q hd)⟩, n8, lz, mz⟩
end
def spBkI (kd : Kd) (K : PySem.W.Frag) (ps : List PT) (T : List NTab) : Sp := fun vs H Q _ => ∃ (b dx pt : Addr) (pas : List Addr), vs = [.ref b, .ref pt] ∧ H b = some (.ins kd.C dx (preF kd.ar)) ∧ SqT K H pt (pas.map V.ref) ∧ Paired (PaintAt K H) pas ps ∧ ps.length ≤ 8 ∧ TabsN T H ∧
  ∀ H' st, st.b = b → Off (fun c => c = b) H H' → TabsN T H' → (∀ c, st.S c → H c = none) → BkAt kd K H' st ps (fun _ => none) (mij kd ps.length ps.length 0) (Dij ps.length ps.length 0) 1000 → Q .non H'
theorem sc_Blocks_init : FnScope ["self", "painters", "painter", "place", "other_place", "other"] ["self", "painters"] (defScope s_Blocks_init) := ⟨rfl, rfl, rfl, by decide +kernel, rfl, by decide +kernel, by decide +kernel⟩
theorem ok_Blocks_init {T0 : List NTab} {kd : Kd} {ps : List PT} {k : Nat} (T : Txt K mg) (O : KindOk P w K mg base T0 kd ps k) : Fn P w K mg base (k + 2) (He.ma K (He.ga K "Blocks") "__init__") (spBkI kd K ps T0) := by
  obtain ⟨fd, F⟩ := T.d_Blocks_init
  have G_look := ok_look O
  refine okR F sc_Blocks_init (fun vs H Q E h => ?_) (fun _ _ _ _ _ _ us hl => match us, hl with | [_, _], _ => rfl) (fun cdv A outer s H vs Q E hr h => ⟨_, (pss_cons (ps_fld (pv 0) (pv 1) rfl)
    (pss_cons (ps_fld (pv 0) (pe_lc (own := [("painter", 2)]) rfl sc_Blocks_init.nd (pi_tup (pv 1)) (blkOk_by (own := [("painter", 2)]) (N := ["self", "painters", "painter", "place", "other_place", "other"]) (sc := defScope s_Blocks_init) (by decide +kernel)) (fun _ _ _ _ _ => (pg_name (i := 2) sc_Blocks_init.nd rfl (.inl rfl) (hf := .inr rfl))) (fun _ _ _ _ _ => pts_nil) (fun _ _ _ _ _ => pe_non)) rfl)
    (pss_cons (ps_fld (pv 0) (pe_lc (own := [("painter", 2)]) rfl sc_Blocks_init.nd (pi_tup (pv 1)) (blkOk_by (own := [("painter", 2)]) (N := ["self", "painters", "painter", "place", "other_place", "other"]) (sc := defScope s_Blocks_init) (by decide +kernel)) (fun _ _ _ _ _ => (pg_name (i := 2) sc_Blocks_init.nd rfl (.inl rfl) (hf := .inr rfl))) (fun _ _ _ _ _ => pts_nil) (fun _ _ _ _ _ => pe_dnewK)) rfl)
    (pss_cons (ps_fld (pv 0) pe_dnewT rfl)
    (pss_one (ps_for PassesOwn.never rfl (pi_enumT (by rfl) T.f_enumerate (pa_cons (pv 1) pa_nil)) (pg_tup rfl (pgs_cons (pg_name (i := 3) sc_Blocks_init.nd rfl (.inl rfl)) (pgs_cons (pg_name (i := 2) sc_Blocks_init.nd rfl (.inl rfl)) pgs_nil))) (pss_one (ps_for PassesOwn.never rfl (pi_enumT (by rfl) T.f_enumerate (pa_cons (pv 1) pa_nil)) (pg_tup rfl (pgs_cons (pg_name (i := 4) sc_Blocks_init.nd rfl (.inl rfl)) (pgs_cons (pg_name (i := 5) sc_Blocks_init.nd rfl (.inl rfl)) pgs_nil))) (pss_one (ps_if (pt_cmpR op_ne (pv 4) (pv 3) (nomark _)) (pss_cons (ps_dput (hu_of hr) (pe_fld (pv 0) rfl) (pe_tup (pa_cons (pv 3) (pa_cons (pv 4) pa_nil))) (pe_methR (pv 0) O.cl O.mc O.cross (hr.mono (Nat.le_succ _)) pass0 (pa_cons (pv 2) (pa_cons (pv 5) pa_nil))) rfl)
    (pss_one (ps_expr (pe_methR (pv 0) O.cl O.ml G_look hr pass0 (pa_cons (pv 3) (pa_cons (pv 4) pa_nil)))))) pss_nil)))))))))), ?_⟩)
  · obtain ⟨b, dx, pt, pas, rfl, _⟩ := h; rfl
  · obtain ⟨b, dx, pt, pas, rfl, hb, hw, hpp, h8, tb, hk⟩ := h
    have hn : (pas.map V.ref).length = ps.length := by rw [List.length_map, Paired.length hpp]
    have sqb : ∀ {H1 : Hp} {a : Addr} {xs : List V}, Off (fun c => c = b) H H1 → SqT K H a xs → SqT K H1 a xs := fun {H1 a xs} o h => by
      rcases h with (h | ⟨u, h⟩) | h
      · exact .inl (.inl (o _ _ h (by intro ps z; cases z) (ne_of h hb (by intro z; cases z))))
      · exact .inl (.inr ⟨u, o _ _ h (by intro ps z; cases z) (ne_of h hb (by intro z; cases z))⟩)
      · exact .inr h
    have ppb : ∀ {H1 : Hp}, Off (fun c => c = b) H H1 → Paired (PaintAt K H1) pas ps := fun {H1} o => pr_imp hpp fun pa P0 ⟨d, t, e, h2, h3⟩ => ⟨d, t, o _ _ e (by intro ps z; cases z) (fun z => by
      rw [z, hb] at e
      have e2 := Option.some.inj e
      injection e2 with _ _ e3
      cases har : kd.ar with
      | none => rw [har] at e3; cases e3
      | some v =>
        rw [har] at e3
        have e4 : ("around" : Str) = ("parts" : Str) := congrArg Prod.fst (List.cons.inj e3).1
        exact absurd e4 (by decide)), sqb o h2, h3⟩
    -- self.walkers
    refine ⟨_, rfl, _, rfl, b, kd.C, dx, _, rfl, hb, O.cl, O.nw, (f_len (pt := pt) (lm := pt) (fr := pt)).1, ?_⟩
    have v1 : But b H (upd H b (.ins kd.C dx (f1 kd.ar pt))) := (But.of (Same.refl H)).upd
    have u1 := v1.off
    have t1 : TabsN T0 (upd H b (.ins kd.C dx (f1 kd.ar pt))) := tabs_upd tb fun u e => by
      rw [hb] at e; cases e
      exact ⟨(by intro ps z; cases z), fun c q z => codeO_kind.1 (by rw [← z]; trivial)⟩
    -- self.limits
    refine ⟨_, rfl, pt, rfl, ⟨_, sqb u1 hw⟩, fun lm hlm => ?_⟩
    refine lc_it walk_tup (fun i H' => Same (upd H b (.ins kd.C dx (f1 kd.ar pt))) H' ∧ H' lm = some (.lst (List.replicate i V.non))) ⟨same_new hlm, upd_same⟩ (fun i H' _ ⟨e, _⟩ => same_sqT e (sqb u1 hw)) (fun i x Hc H' hi ⟨eS, hL⟩ y => ?_) (fun H2 ⟨e2, hL2⟩ => ?_)
    · obtain ⟨rfl, _⟩ := y
      rw [hn] at hi
      refine ⟨rfl, _, hL, ?_, same_put eS hlm, ?_⟩
      · rw [List.length_replicate]
        exact Nat.lt_trans (Nat.lt_of_lt_of_le hi h8) (by decide)
      · rw [upd_same, List.replicate_succ']
    rw [hn] at hL2
    refine ⟨_, rfl, b, kd.C, dx, _, rfl, e2 _ _ upd_same, O.cl, O.nl, (f_len (pt := pt) (lm := pt) (fr := pt)).2.1, ?_⟩
    have v3 : But b H (upd H2 b (.ins kd.C dx (f2 kd.ar pt lm))) := (v1.same e2).upd
    have u3 := v3.off
    have hlm : (upd H b (.ins kd.C dx (f1 kd.ar pt))) lm = none := hlm
    have hlb : lm ≠ b := fun z => by rw [z, upd_same] at hlm; cases hlm
    have hlm3 : (upd H2 b (.ins kd.C dx (f2 kd.ar pt lm))) lm = some (.lst (List.replicate ps.length V.non)) := (upd_ne hlb).trans hL2
    have t3 : TabsN T0 (upd H2 b (.ins kd.C dx (f2 kd.ar pt lm))) := tabs_upd (tabs_same t1 e2) fun u e => by
      rw [e2 _ _ upd_same] at e; cases e
      exact ⟨(by intro ps z; cases z), fun c q z => codeO_kind.1 (by rw [← z]; trivial)⟩
    -- self.firsts
    refine ⟨_, rfl, pt, rfl, ⟨_, sqb u3 hw⟩, fun fr hfr => ?_⟩
    refine lc_it walk_tup (fun i H' => Same (upd H2 b (.ins kd.C dx (f2 kd.ar pt lm))) H' ∧ ∃ fas : List Addr, fas.length = i ∧ fas.Nodup ∧ (∀ f ∈ fas, (upd H2 b (.ins kd.C dx (f2 kd.ar pt lm))) f = none ∧ H' f = some (.dK [])) ∧ H' fr = some (.lst (fas.map V.ref)))
      ⟨same_new hfr, [], rfl, List.nodup_nil, fun f hf => (by cases hf), upd_same⟩ (fun i H' _ ⟨e, _⟩ => same_sqT e (sqb u3 hw)) (fun i x Hc H' hi ⟨eS, fas, hf1, hf2, hf3, hL⟩ y => ?_) (fun H4 ⟨e4, fas, hf1, hf2, hf3, hL4⟩ => ?_)
    · obtain ⟨rfl, _⟩ := y
      rw [hn] at hi
      refine ⟨rfl, fun f hf => ?_⟩
      have hff : f ≠ fr := fun z => by rw [z, hL] at hf; cases hf
      refine ⟨_, same_new hf _ _ hL, ?_, same_put (eS.trans (same_new hf)) hfr, fas ++ [f], ?_, ?_, fun g hg => ?_, ?_⟩
      · rw [List.length_map, hf1]
        exact Nat.lt_trans (Nat.lt_of_lt_of_le hi h8) (by decide)
      · rw [List.length_append, hf1]; rfl
      · rw [List.nodup_append]
        refine ⟨hf2, by simp, fun a ha c hc z => ?_⟩
        rw [List.mem_singleton.mp hc] at z
        rw [z] at ha
        rw [(hf3 f ha).2] at hf; cases hf
      · rcases List.mem_append.mp hg with hg | hg
        · have hgr : g ≠ fr := fun z => by have := (hf3 g hg).2; rw [z, hL] at this; cases this
          exact ⟨(hf3 g hg).1, (upd_ne hgr).trans (same_new hf _ _ (hf3 g hg).2)⟩
        · rw [List.mem_singleton.mp hg]
          exact ⟨eS.free hf, (upd_ne hff).trans upd_same⟩
      · rw [upd_same, List.map_append]; rfl
    rw [hn] at hf1
    refine ⟨_, rfl, b, kd.C, dx, _, rfl, e4 _ _ upd_same, O.cl, O.nf, (f_len (pt := pt) (lm := lm) (fr := pt)).2.2.1, ?_⟩
    have v5 : But b H (upd H4 b (.ins kd.C dx (f3 kd.ar pt lm fr))) := (v3.same e4).upd
    have u5 := v5.off
    have hfr : (upd H2 b (.ins kd.C dx (f2 kd.ar pt lm))) fr = none := hfr
    have hfb : fr ≠ b := fun z => by rw [z, upd_same] at hfr; cases hfr
    have t5 : TabsN T0 (upd H4 b (.ins kd.C dx (f3 kd.ar pt lm fr))) := tabs_upd (tabs_same t3 e4) fun u e => by
      rw [e4 _ _ upd_same] at e; cases e
      exact ⟨(by intro ps z; cases z), fun c q z => codeO_kind.1 (by rw [← z]; trivial)⟩
    -- self.crossings
    intro cr hcr
    have hcr : (upd H4 b (.ins kd.C dx (f3 kd.ar pt lm fr))) cr = none := hcr
    refine ⟨_, rfl, b, kd.C, dx, _, rfl, same_new hcr _ _ upd_same, O.cl, O.nc, (f_len (pt := pt) (lm := lm) (fr := fr)).2.2.2, ?_⟩
    have u6 : Off (fun c => c = b) H (upd (upd (upd H4 b (.ins kd.C dx (f3 kd.ar pt lm fr))) cr (.dT [])) b (.ins kd.C dx (putF "crossings" (.ref cr) (f3 kd.ar pt lm fr)))) := (u5.trans (Off.same (same_new hcr))).upd rfl
    have t6 : TabsN T0 (upd (upd (upd H4 b (.ins kd.C dx (f3 kd.ar pt lm fr))) cr (.dT [])) b (.ins kd.C dx (putF "crossings" (.ref cr) (f3 kd.ar pt lm fr)))) := tabs_upd (tabs_new t5 hcr) fun u e => by
      rw [same_new hcr _ _ upd_same] at e; cases e
      exact ⟨(by intro ps z; cases z), fun c q z => codeO_kind.1 (by rw [← z]; trivial)⟩
    have hcb : cr ≠ b := fun z => by rw [z, upd_same] at hcr; cases hcr
    have lift : ∀ {c o}, H4 c = some o → c ≠ b → (upd (upd (upd H4 b (.ins kd.C dx (f3 kd.ar pt lm fr))) cr (.dT [])) b (.ins kd.C dx (putF "crossings" (.ref cr) (f3 kd.ar pt lm fr)))) c = some o := fun {c o} h n =>
      (upd_ne n).trans (same_new hcr _ _ ((upd_ne n).trans h))
    have fb : ∀ f ∈ fas, f ≠ b := fun f hf z => by
      have := (hf3 f hf).1
      rw [z, upd_same] at this; cases this
    have B6 : BkAt kd K (upd (upd (upd H4 b (.ins kd.C dx (f3 kd.ar pt lm fr))) cr (.dT [])) b (.ins kd.C dx (putF "crossings" (.ref cr) (f3 kd.ar pt lm fr)))) ⟨b, dx, pt, lm, fr, cr, fas, pas⟩ ps (fun _ => none) (mij kd ps.length 0 0) (Dij ps.length 0 0) (0 * ps.length + 0) := by
      refine ⟨upd_same.trans (congrArg (fun z => some (HO.ins kd.C dx z)) f4_is), sqb u6 hw, ppb u6, by rw [limV_none]; exact lift (e4 _ _ hlm3) hlb, lift hL4 hfb, hf1, hf2, fun z => ?_, fun i f hf => ⟨[], ?_, ?_⟩, ⟨[], (upd_ne hcb).trans upd_same, Nat.zero_le _, fun p q hd => ?_⟩, h8, fun _ _ _ z => (by cases z), fun p q c _ hm => ?_⟩
      · have z : fr = lm := z
        rw [z] at hfr
        have := hlm3.symm.trans hfr
        cases this
      · exact lift (hf3 f (List.mem_of_getElem? hf)).2 (fb f (List.mem_of_getElem? hf))
      · refine ⟨List.nodup_nil, fun e he => (by cases he), fun q c => ⟨fun z => (by cases z), fun z => ?_⟩⟩
        unfold mij at z
        rw [if_neg (fun d => by unfold Dij at d; omega)] at z
        cases z
      · unfold Dij at hd; omega
      · unfold mij at hm
        rw [if_neg (fun d => by unfold Dij at d; omega)] at hm
        cases hm
    have new : ∀ c, (⟨b, dx, pt, lm, fr, cr, fas, pas⟩ : BS).S c → c ≠ b ∧ H c = none := fun c hs => by
      rcases hs with rfl | rfl | hs
      · exact ⟨hlb, v1.none hlb hlm⟩
      · exact ⟨hcb, v5.none hcb hcr⟩
      · exact ⟨fb c hs, v3.none (fb c hs) (hf3 c hs).1⟩
    have fin : ∀ {c}, H c = none → ¬ c = b → True := fun _ _ => trivial
    refine ⟨_, rfl, pt, _, rfl, sqb u6 hw, ?_⟩
    generalize hst : (⟨b, dx, pt, lm, fr, cr, fas, pas⟩ : BS) = st at B6 new
    have sb : st.b = b := by rw [← hst]
    have sdx : st.dx = dx := by rw [← hst]
    have spas : st.pas = pas := by rw [← hst]
    have spt : st.pt = pt := by rw [← hst]
    refine for_it walk_enumT (fun i σ H' => Off (fun c => c = b) H H' ∧ TabsN T0 H' ∧ BkAt kd K H' st ps (fun _ => none) (mij kd ps.length i 0) (Dij ps.length i 0) (i * ps.length + 0) ∧ ∃ (z1 z2 z3 z4 : Option V), σ = [some (.ref b), some (.ref pt), z1, z2, z3, z4])
      ⟨u6, t6, B6, _, _, _, _, rfl⟩ (fun i σ H' _ ⟨o, _⟩ => sqb o hw) (fun i x σ Hc H' hi ⟨oS, tS, BS, z1, z2, z3, z4, eσ⟩ y => ?_) (fun σ H' ⟨oS, tS, BS, z1, z2, z3, z4, eσ⟩ => ?_)
    · subst eσ
      rw [hn] at hi
      obtain ⟨Tt, kx, vx, rfl, hTn, rfl, hk1, hv⟩ := y
      cases hk1
      dsimp only at hv
      rw [List.getElem?_map] at hv
      obtain ⟨pa, hpa, e1⟩ := Option.map_eq_some_iff.mp hv
      subst e1
      obtain ⟨P1, hP1, hPA1⟩ := PR.paired_get BS.pp (by rw [spas]; exact hpa)
      have eT : Ex Hc (upd Hc Tt (.tup [.int (i : Int), .ref pa])) := Off.same (same_new hTn)
      refine ⟨Tt, _, rfl, SqT.of upd_same, rfl, _, _, rfl, _, _, rfl, rfl, ?_⟩
      refine ⟨_, rfl, pt, _, rfl, sqb (oS.trans eT.ex) hw, ?_⟩
      refine for_it walk_enumT (fun j σ H' => Off (fun c => c = b) H H' ∧ TabsN T0 H' ∧ BkAt kd K H' st ps (fun _ => none) (mij kd ps.length i j) (Dij ps.length i j) (i * ps.length + j) ∧ PaintAt K H' pa P1 ∧ ∃ (z1 z2 : Option V), σ = [some (.ref b), some (.ref pt), some (.ref pa), some (.int (i : Int)), z1, z2])
        ⟨oS.trans eT.ex, tabs_new tS hTn, BS.off O eT, hPA1.fx eT.fx, _, _, rfl⟩ (fun j σ H' _ ⟨o, _⟩ => sqb o hw) (fun j x σ Hd H' hj ⟨oS, tS, BS, hPA, z1, z2, eσ⟩ y => ?_) (fun σ H' ⟨oS, tS, BS, hPA, z1, z2, eσ⟩ => ?_)
      · subst eσ
        rw [hn] at hj
        obtain ⟨Tu, kx, vx, rfl, hUn, rfl, hk2, hv2⟩ := y
        cases hk2
        dsimp only at hv2
        rw [List.getElem?_map] at hv2
        obtain ⟨qa, hqa, e1⟩ := Option.map_eq_some_iff.mp hv2
        subst e1
        obtain ⟨P2, hP2, hPA2⟩ := PR.paired_get BS.pp (by rw [spas]; exact hqa)
        have eU : Ex Hd (upd Hd Tu (.tup [.int (j : Int), .ref qa])) := Off.same (same_new hUn)
        have BU := BS.off O eU
        have oU := oS.trans eU.ex
        have tU := tabs_new (o := .tup [.int (j : Int), .ref qa]) tS hUn
        refine ⟨Tu, _, rfl, SqT.of upd_same, rfl, _, _, rfl, _, _, rfl, rfl, ?_⟩
        refine ⟨_, rfl, _, rfl, rfl, _, rfl, ?_⟩
        rw [ne_nat]
        by_cases hij : j = i
        · rw [decide_eq_false (fun z => z hij)]
          have eD : ∀ p q, Dij ps.length i (j + 1) p q ↔ Dij ps.length i j p q := fun p q => by unfold Dij; omega
          have em : mij kd ps.length i (j + 1) = mij kd ps.length i j := by
            funext p q
            unfold mij
            by_cases d : Dij ps.length i j p q
            · rw [if_pos d, if_pos ((eD p q).mpr d)]
            · rw [if_neg d, if_neg (fun z => d ((eD p q).mp z))]
          refine iteF ⟨oU, tU, ?_, hPA.fx eU.fx, _, _, rfl⟩
          rw [em]
          exact BU.weak (fun p q => (eD p q).mp) (Nat.le_succ _)
        · rw [decide_eq_true hij]
          have hb' : (upd Hd Tu (.tup [.int (j : Int), .ref qa])) b = some (.ins kd.C st.dx (bkF kd.ar st.pt st.lm st.fr st.cr)) := sb ▸ BU.b
          refine iteT ⟨_, rfl, b, _, _, rfl, hb', bk_lk.2.2.2.2.2.2.1, _, rfl, _, rfl, b, _, _, _, _, _, pa, qa, i, j, P1, P2, rfl, hb', hP1, hP2, fun z => hij z.symm, hPA.fx eU.fx, hPA2.fx eU.fx, fun x H2 e2 hx hCA => ?_⟩
          have B2 := BU.off O (Off.same e2)
          obtain ⟨kv, hcr2, hcl2, _⟩ := B2.cr
          have hb2 := e2 _ _ hb'
          refine ⟨_, rfl, b, _, _, _, _, rfl, hb2, O.cl, O.nc, bk_lk.2.2.2.1, _, rfl, _, rfl, by show 2 ≤ sizeLine; decide, fun t ht => ?_⟩
          have e3 : Same H2 (upd H2 t (.tup [.int (i : Int), .int (j : Int)])) := same_new ht
          have B3 := B2.off O (Off.same e3)
          have hlen : kv.length < sizeLine := by
            have h1 : i * ps.length ≤ 8 * 8 := Nat.mul_le_mul (Nat.le_of_lt (Nat.lt_of_lt_of_le hi h8)) h8
            exact Nat.lt_of_lt_of_le (by omega : kv.length < 100) (by decide)
          refine ⟨st.cr, _, rfl, DPut.t (k := [.inl (i : Int), .inl (j : Int)]) (e3 _ _ hcr2) upd_same hlen, ?_⟩
          have B4 := B3.addc O (e3 _ _ hcr2) (O.cfx _ _ _ _ _ (Fx.same e3) hCA)
          have o4 : Off (fun c => c = b) H (upd (upd H2 t (.tup [.int (i : Int), .int (j : Int)])) st.cr (.dT (putK kv [.inl (i : Int), .inl (j : Int)] (.ref x)))) := ((oU.trans (Off.same e2)).trans (Off.same e3)).new (new _ (.inr (.inl rfl))).2
          have t4 : TabsN T0 (upd (upd H2 t (.tup [.int (i : Int), .int (j : Int)])) st.cr (.dT (putK kv [.inl (i : Int), .inl (j : Int)] (.ref x)))) := tabs_dT (tabs_same (tabs_same tU e2) e3) (e3 _ _ hcr2)
          have hb4 := B4.b
          rw [sb] at hb4
          refine ⟨_, rfl, b, _, _, rfl, hb4, bk_lk.2.2.2.2.1, _, rfl, _, rfl, st, _, _, _, _, i, j, by rw [sb], B4, t4, hi, hj, fun z => hij z.symm, .inr ⟨rfl, rfl⟩, fun H5 o5 t5 B5 => ?_⟩
          have f5 : Fx _ H5 := B4.fx o5
          have em : setMM (mij kd ps.length i j) i j (kd.fb i j none) = mij kd ps.length i (j + 1) := by
            funext p q
            unfold setMM setM mij
            by_cases hp : p = i
            · subst hp
              rw [if_pos rfl]
              by_cases hq : q = j
              · subst hq
                rw [if_pos rfl, if_pos (by unfold Dij; omega)]
              · rw [if_neg hq]
                by_cases d : Dij ps.length p j p q
                · rw [if_pos d, if_pos (by unfold Dij at d ⊢; omega)]
                · rw [if_neg d, if_neg (fun z => d (by unfold Dij at z ⊢; omega))]
            · rw [if_neg hp]
              by_cases d : Dij ps.length i j p q
              · rw [if_pos d, if_pos (by unfold Dij at d ⊢; omega)]
              · rw [if_neg d, if_neg (fun z => d (by unfold Dij at z ⊢; omega))]
          rw [em] at B5
          refine ⟨fun c o h n s => o5 c o (o4 c o h n s) n (fun z => ?_), t5, B5.weak (fun p q d => ?_) (Nat.le_refl _), ?_, _, _, rfl⟩
          · rw [(new c z).2] at h; cases h
          · unfold Dij at d ⊢; omega
          · exact (((((hPA.fx eU.fx).fx (Fx.same e2)).fx (Fx.same e3)).fx ((Fx.refl _).upd (e3 _ _ hcr2) id)).fx f5)
      · subst eσ
        rw [hn] at BS
        have eD : ∀ p q, Dij ps.length (i + 1) 0 p q ↔ Dij ps.length i ps.length p q := fun p q => by unfold Dij; omega
        have em : mij kd ps.length (i + 1) 0 = mij kd ps.length i ps.length := by
          funext p q
          unfold mij
          by_cases d : Dij ps.length i ps.length p q
          · rw [if_pos d, if_pos ((eD p q).mpr d)]
          · rw [if_neg d, if_neg (fun z => d ((eD p q).mp z))]
        refine ⟨oS, tS, ?_, _, _, _, _, rfl⟩
        rw [em]
        exact BS.weak (fun p q => (eD p q).mp) (by rw [Nat.add_mul]; omega)
    · rw [hn] at BS
      refine hk H' st sb oS tS (fun c z => (new c z).2) (BS.weak (fun _ _ h => h) ?_)
      have h1 : ps.length * ps.length ≤ 8 * 8 := Nat.mul_le_mul h8 h8
      omega
end PP
end
section
set_option maxHeartbeats 4000000
namespace PP
open PySem PySem.Spec PyProof.Rows L2 PR
variable {P : Program} {w : World} {K : PySem.W.Frag} {mg : Str → Option Value} {base : Heap}

open LamX NdefX
/-! ### the fence's blocks -/
def postOf (ps : List PT) (i : Nat) : Int := match ps[i]? with
  | some p => p.post
  | none => 0
def strOf (ps : List PT) (i : Nat) : Int := match ps[i]? with
  | some p => p.str
  | none => 0
theorem of_at {ps : List PT} {i : Nat} {p : PT} (h : ps[i]? = some p) : dayOf ps i = p.day ∧ postOf ps i = p.post ∧ strOf ps i = p.str := by
  unfold dayOf postOf strOf
  rw [h]
  exact ⟨rfl, rfl, rfl⟩
noncomputable def fKd (K : PySem.W.Frag) (ps : List PT) : Kd where
  C := He.ga K "Blocks"
  CC := He.ga K "Crossing"
  ar := none
  CA := fun H x p q => ∃ P1 P2, ps[p]? = some P1 ∧ ps[q]? = some P2 ∧ CrAt K H x P1.day P1.post P1.str P2.day P2.post P2.str
  fb := PM.fbF (dayOf ps) (postOf ps) (strOf ps)
  lok := fun _ c => 0 ≤ c ∧ c < 1000
theorem CrAt.fx {H H' : Hp} {a : Addr} {d1 x1 s1 d2 x2 s2 : Int} (e : Fx H H') (h : CrAt K H a d1 x1 s1 d2 x2 s2) : CrAt K H' a d1 x1 s1 d2 x2 s2 := by
  obtain ⟨dx, t1, t2, em, step, ostep, start, ostart, h1, h2, h3, h4⟩ := h
  exact ⟨dx, t1, t2, em, step, ostep, start, ostart, e _ _ h1 trivial, e.sqT h2, e.sqT h3, h4⟩
theorem sc_Blocks_crossing : FnScope ["self", "painter", "other"] ["self", "painter", "other"] (defScope s_Blocks_crossing) := ⟨rfl, rfl, rfl, by decide +kernel, rfl, by decide +kernel, by decide +kernel⟩
theorem ok_Blocks_crossing (T : Txt K mg) (ps : List PT) : Fn P w K mg base 4 (He.ma K (He.ga K "Blocks") "crossing") (spCross (fKd K ps) K ps) := by
  obtain ⟨fd, F⟩ := T.d_Blocks_crossing
  have G_Crossing_init := ok_Crossing_init (P := P) (w := w) (base := base) T
  have G_Painter_way := ok_Painter_way (P := P) (w := w) (base := base) T
  refine okR F sc_Blocks_crossing (fun vs H Q E h => ?_) (fun _ _ _ _ _ _ us hl => match us, hl with | [_, _, _], _ => rfl) (fun cdv A outer s H vs Q E hr h => ⟨_, (pss_one (ps_ret (StX.pe_makeR T.k_Crossing G_Crossing_init (hr.mono (by decide)) (by rfl) T.g_Crossing pass0 (pa_cons (pe_propR (pv 1) T.c_Painter T.p_Painter_way G_Painter_way (hr.mono (by decide))) (pa_cons (pe_propR (pv 2) T.c_Painter T.p_Painter_way G_Painter_way (hr.mono (by decide))) pa_nil))))), ?_⟩)
  · obtain ⟨b, dx, pt, lm, fr, cr, pa, qa, p, q, P1, P2, rfl, _⟩ := h; rfl
  · obtain ⟨b, dx, pt, lm, fr, cr, pa, qa, p, q, P1, P2, rfl, hb, h1, h2, hne, hp1, hp2, hk⟩ := h
    obtain ⟨d1, t1, a1, a2, w1⟩ := id hp1
    refine ⟨_, rfl, pa, d1, _, rfl, a1, pa, P1, rfl, hp1, fun t H1 e1 ht => ?_⟩
    have hp2' : PaintAt K H1 qa P2 := hp2.fx (Fx.same e1)
    obtain ⟨d2, t2, c1, c2, w2⟩ := id hp2'
    refine ⟨_, rfl, qa, d2, _, rfl, c1, qa, P2, rfl, hp2', fun u H2 e2 hu => ?_⟩
    intro x dx hx hdx hne2
    refine ⟨x, dx, t, u, _, _, _, _, _, _, rfl, upd_same, ?_, ?_, w1, w2, fun H3 b3 hC => ⟨rfl, hk x H3 ?_ ?_ ⟨P1, P2, h1, h2, hC⟩⟩⟩
    · exact same_sqT ((same_new hdx).trans (same_new ((upd_ne hne2.symm).trans hx))) (same_sqT e2 ht)
    · exact same_sqT ((same_new hdx).trans (same_new ((upd_ne hne2.symm).trans hx))) hu
    · have e3 := e1.trans e2
      exact fun c o h => b3 c o ((same_new ((upd_ne hne2.symm).trans hx)) c o (same_new hdx c o (e3 c o h))) (ne_of_none (e3 c o h) hx)
    · exact (e1.trans e2).free hx
theorem ok_fKd {T0 : List NTab} {ps : List PT} {N f : Int} (T : Txt K mg) (hF : PM.Fenced ps.length N f (dayOf ps) (postOf ps) (strOf ps)) : KindOk P w K mg base T0 (fKd K ps) ps 4 := by
  refine ⟨T.c_Blocks, T.a_Blocks_walkers, T.a_Blocks_limits, T.a_Blocks_firsts, T.a_Blocks_crossings, T.m_Blocks_crossing, T.m_Blocks_look, T.m_Blocks_first_of, T.m_Blocks_next_stop, T.m_Blocks_settle, T.d_Blocks_look, T.d_Blocks_first_of, T.d_Blocks_next_stop, T.d_Blocks_settle, T.d_Blocks_all_stops,
    T.c_Crossing, T.m_Crossing_first_block, fun H x p q ⟨P1, P2, _, _, dx, _, _, _, _, _, _, _, h, _⟩ => ⟨dx, _, h, rfl⟩, fun H H' x p q e ⟨P1, P2, h1, h2, h3⟩ => ⟨P1, P2, h1, h2, h3.fx e⟩, fun p q c k hp hq _ _ h => ?_, ok_Blocks_crossing T ps, ((ok_Crossing_first_block T).mono (by decide)).imp fun vs H Q E h => ?_⟩
  · have := PM.fence_early hF hp hq h
    exact ⟨this.1, by omega⟩
  · obtain ⟨x, p, q, c, rfl, ⟨P1, P2, h1, h2, h3⟩, hp, hq, hne, hc, tb, hk⟩ := h
    refine ⟨x, _, _, _, _, _, _, c, _, rfl, h3, fun v hv => ?_, fun r H' e hr => ?_⟩
    · obtain ⟨a1, a2⟩ := hc v hv
      exact Sz.of (by have : (0 : Int) < 2 ^ 1000 := by decide
                      omega) (Int.lt_of_lt_of_le a2 (by decide))
    · have e1 : decide ((q : Int) < (p : Int)) = decide (q < p) := by rw [decide_eq_decide]; omega
      rw [e1] at hr
      have e2 : (fKd K ps).fb p q c = r := by
        obtain ⟨a1, a2, a3⟩ := of_at h1
        obtain ⟨b1, b2, b3⟩ := of_at h2
        show PM.least (PM.PF (dayOf ps p) (postOf ps p) (strOf ps p) (dayOf ps q) (postOf ps q) (strOf ps q) c (decide (q < p))) = r
        rw [a1, a2, a3, b1, b2, b3]
        exact (PM.least_eq hr).symm
      rw [← e2]
      exact hk H' (Off.same e) (tabs_same tb e)
end PP
end
section
set_option maxHeartbeats 4000000
namespace PP
open PySem PySem.Spec PyProof.Rows L2 PR
variable {P : Program} {w : World} {K : PySem.W.Frag} {mg : Str → Option Value} {base : Heap}

open LamX NdefX
/-! ### a dict comprehension over any walk -/
theorem dc_it {J : It} {n : Nat} {G : Hp → Prop} {Y : Nat → Hp → V → Hp → Prop} (wk : Walk J n G Y) {g : TG} {tt : TT} {tk tv : TE} {vs : List Nat} {σ : L2.St} {H1 : Hp} {D : Addr} {Qd : Hp → Prop} (Pv : Nat → Hp → Prop) (h0 : Pv 0 (upd H1 D (.dK []))) (hG : ∀ i H, i ≤ n → Pv i H → G H)
    (hs : ∀ i x H H', i < n → Pv i H → Y i H x H' → g x (wipe σ vs) H' fun σ2 H2 => wipe σ2 vs = wipe σ vs ∧ tt σ2 H2 fun b H3 =>
      if b = true then tk σ2 H3 fun y H4 => tv σ2 H4 fun z H5 => ∃ kvs k, y = kV k ∧ H5 D = some (.dK kvs) ∧ kvs.length < sizeLine ∧ Pv (i + 1) (upd H5 D (.dK (putK kvs k z))) else Pv (i + 1) H3) (hd : ∀ H, Pv n H → Qd H) :
    ∃ W : Nat → Nat → Hp → Prop, (∃ m, W 0 m (upd H1 D (.dK []))) ∧ ∀ i m H, W i m H →
      (J.stop i H ∧ Qd H) ∨ (J.go i H ∧ ∃ Nx : Hp → Prop, (∀ H', Nx H' → ∃ m', m' < m ∧ W (i + 1) m' H') ∧ ∀ x H', J.yld i H x H' → g x (wipe σ vs) H' fun σ2 H2 => wipe σ2 vs = wipe σ vs ∧ tt σ2 H2 fun b H3 =>
        if b = true then tk σ2 H3 fun y H4 => tv σ2 H4 fun z H5 => ∃ kvs k, y = kV k ∧ H5 D = some (.dK kvs) ∧ kvs.length < sizeLine ∧ Nx (upd H5 D (.dK (putK kvs k z))) else Nx H3) := by
  refine ⟨fun i m H => m = n - i ∧ i ≤ n ∧ Pv i H, ⟨n, (Nat.sub_zero n).symm, Nat.zero_le _, h0⟩, ?_⟩
  rintro i m H ⟨em, hi, p⟩
  subst em
  have q := hG i H hi p
  by_cases lt : i < n
  · exact .inr ⟨wk.goes i H lt q, Pv (i + 1), fun H' p' => ⟨n - (i + 1), by omega, rfl, lt, p'⟩, fun x H' y => hs i x H H' lt p (wk.yields i H x H' lt q y)⟩
  · have e : i = n := by omega
    subst e
    exact .inl ⟨wk.stops H q, hd H p⟩
/-! ### is_name -/
def abc : Str := "abcdefghijklmnopqrstuvwxyz"
structure NameOk (z : Str) : Prop where
  l1 : 1 ≤ z.length
  l8 : z.length ≤ 8
  all : ∀ c ∈ z.cps.toList, c ∈ abc.cps.toList
def spIsName : Sp := fun vs H Q _ => ∃ z : Str, vs = [.str z] ∧ NameOk z ∧ ∀ H', Same H H' → Q (.bl true) H'
theorem sc_is_name : FnScope ["value", "letter"] ["value"] (defScope s_is_name) := ⟨rfl, rfl, rfl, by decide +kernel, rfl, by decide +kernel, by decide +kernel⟩
theorem ok_is_name (T : Txt K mg) : Fn P w K mg base 1 (He.ga K "is_name") spIsName := by
  obtain ⟨fd, F⟩ := T.d_is_name
  obtain ⟨tk_MAX_NAME, hc_MAX_NAME⟩ := T.i_MAX_NAME
  obtain ⟨tk_LETTERS, hc_LETTERS⟩ := T.t_LETTERS
  refine okR F sc_is_name (fun vs H Q E h => ?_) (fun _ _ _ _ _ _ us hl => match us, hl with | [_], _ => rfl) (fun cdv A outer s H vs Q E hr h => ⟨_, (pss_cons (ps_if (PW.pt (pw_or (pt_not (pt_val (pe_callB call_isi (by rfl) T.f_isinstance (by decide +kernel) (pa_cons (pv 0) (pa_cons (pe_bltn (v := .ty "str") (by rfl) T.f_str (by decide +kernel) rfl) pa_nil))))) (pw_or1 (pt_not (pt_chain op_le op_le pe_int (pe_callB call_len_str (by rfl) T.f_len (by decide +kernel) (pa_cons (pv 0) pa_nil)) (pe_glob (v := .int 8) rfl hc_MAX_NAME ⟨_, rfl⟩)))))) (pss_one (ps_ret pe_bl)) pss_nil)
    (pss_one (ps_ret (pe_callB (cr_all rfl) (by rfl) T.f_all (by decide +kernel) (pa_cons (pe_lc (own := [("letter", 1)]) rfl sc_is_name.nd (pi_str (pv 0)) (blkOk_by (own := [("letter", 1)]) (N := ["value", "letter"]) (sc := defScope s_is_name) (by decide +kernel)) (fun _ _ _ _ _ => (pg_name (i := 1) sc_is_name.nd rfl (.inl rfl) (hf := .inr rfl))) (fun _ _ _ _ _ => pts_nil) (fun _ _ _ _ _ => (pe_cmpR op_in_sign (pv 1) (pe_glob (v := .str abc) rfl hc_LETTERS ⟨_, rfl⟩) rfl))) pa_nil))))), ?_⟩)
  · obtain ⟨z, rfl, _⟩ := h; rfl
  · obtain ⟨z, rfl, hz, q⟩ := h
    refine ⟨_, rfl, _, _, _, _, true, rfl, .ty "str", .base (.str z), kit_ty (by decide +kernel), true, rfl, ?_⟩
    have h8 : z.length ≤ sizeLine := Nat.le_trans hz.l8 (by decide)
    have c1 : decide ((1 : Int) ≤ (z.length : Int)) = true := decide_eq_true (by have := hz.l1; omega)
    have c2 : decide ((z.length : Int) ≤ 8) = true := decide_eq_true (by have := hz.l8; omega)
    refine ⟨_, rfl, _, rfl, h8, _, _, rfl, rfl, true, congrArg V.bl c1, _, _, rfl, rfl, true, congrArg V.bl c2, ?_⟩
    refine ⟨_, rfl, z, rfl, fun D hD => ?_⟩
    refine lc_it walk_str (fun i H' => Same H H' ∧ H' D = some (.lst ((List.replicate i true).map V.bl))) ⟨same_new hD, upd_same⟩ (fun _ _ _ _ => trivial) (fun i x Hc H' hi ⟨eS, hL⟩ y => ?_) (fun H' ⟨eS, hL⟩ => ?_)
    · obtain ⟨rfl, c, hc, rfl⟩ := y
      have hm : c ∈ abc.cps.toList := hz.all c (List.mem_of_getElem? (i := i) (by rw [Array.getElem?_toList]; exact hc))
      refine ⟨rfl, _, rfl, c, abc, rfl, rfl, _, hL, ?_, same_put eS hD, ?_⟩
      · rw [List.length_map, List.length_replicate]
        exact Nat.lt_of_lt_of_le hi h8
      · rw [upd_same, decide_eq_true hm, List.replicate_succ', List.map_append]; rfl
    · refine ⟨D, _, rfl, .inl (.inl hL), ?_⟩
      have e : (List.replicate z.cps.size true).all id = true := by simp
      rw [e]
      exact q _ eS
/-! ### Painter.__init__ -/
def spPainterI (K : PySem.W.Frag) : Sp := fun vs H Q _ => ∃ (x dx : Addr) (z : Str) (d p s : Int), vs = [.ref x, .str z, .int d, .int p, .int s] ∧ H x = some (.ins (He.ga K "Painter") dx []) ∧ NameOk z ∧ 0 ≤ d ∧ d ≤ 1000000000000000000000000000000 ∧ -1000000000000000000000000000000 ≤ p ∧ p ≤ 1000000000000000000000000000000 ∧
  -1000000000000000000 ≤ s ∧ s ≤ 1000000000000000000 ∧ s ≠ 0 ∧ ∀ H', But x H H' → PaintAt K H' x ⟨z, d, p, s⟩ → Q .non H'
theorem sc_Painter_init : FnScope ["self", "name", "day", "post", "stride"] ["self", "name", "day", "post", "stride"] (defScope s_Painter_init) := ⟨rfl, rfl, rfl, by decide +kernel, rfl, by decide +kernel, by decide +kernel⟩
theorem ok_Painter_init (T : Txt K mg) : Fn P w K mg base 3 (He.ma K (He.ga K "Painter") "__init__") (spPainterI K) := by
  obtain ⟨fd, F⟩ := T.d_Painter_init
  have G_is_between := ok_is_between (P := P) (w := w) (base := base) T
  have G_is_name := ok_is_name (P := P) (w := w) (base := base) T
  obtain ⟨u1, n1⟩ := T.n_Painter_MAX_DAY
  obtain ⟨u2, n2⟩ := T.n_Painter_MAX_POST
  obtain ⟨u3, n3⟩ := T.n_Painter_MAX_STRIDE
  refine okR F sc_Painter_init (fun vs H Q E h => ?_) (fun _ _ _ _ _ _ us hl => match us, hl with | [_, _, _, _, _], _ => rfl) (fun cdv A outer s H vs Q E hr h => ⟨_, (pss_cons (ps_if (pt_not (pt_val (pe_callR G_is_name (hr.mono (by decide)) T.g_is_name_names (T.d_is_name.elim fun _ F => F.kp) (pa_cons (pv 1) pa_nil)))) (pss_one ps_never) pss_nil)
    (pss_cons (ps_if (pt_not (pt_val (pe_callR G_is_between (hr.mono (by decide)) T.g_is_between (T.d_is_between.elim fun _ F => F.kp) (pa_cons (pv 2) (pa_cons pe_int (pa_cons (pe_con (pv 0) rfl) pa_nil)))))) (pss_one ps_never) pss_nil)
    (pss_cons (ps_if (pt_not (pt_val (pe_callR G_is_between (hr.mono (by decide)) T.g_is_between (T.d_is_between.elim fun _ F => F.kp) (pa_cons (pv 3) (pa_cons (pe_un un_neg (pe_con (pv 0) rfl)) (pa_cons (pe_con (pv 0) rfl) pa_nil)))))) (pss_one ps_never) pss_nil)
    (pss_cons (ps_if (PW.pt (pw_or (pt_not (pt_val (pe_callR G_is_between (hr.mono (by decide)) T.g_is_between (T.d_is_between.elim fun _ F => F.kp) (pa_cons (pv 4) (pa_cons (pe_un un_neg (pe_con (pv 0) rfl)) (pa_cons (pe_con (pv 0) rfl) pa_nil)))))) (pw_or1 (pt_cmpR op_eq (pv 4) pe_int (nomark _))))) (pss_one ps_never) pss_nil)
    (pss_one (ps_fld (pv 0) (pe_tup (pa_cons (pv 1) (pa_cons (pv 2) (pa_cons (pv 3) (pa_cons (pv 4) pa_nil))))) rfl)))))), ?_⟩)
  · obtain ⟨x, dx, z, d, p, s, rfl, _⟩ := h; rfl
  · obtain ⟨x, dx, z, d, p, s', rfl, hx, hz, d0, d1, p0, p1, s0, s1, sn, q⟩ := h
    refine ⟨_, rfl, z, rfl, hz, fun H1 e1 => ⟨_, rfl, ?_⟩⟩
    have hx1 := e1 _ _ hx
    have c1 : decide ((0 : Int) ≤ d ∧ d ≤ 1000000000000000000000000000000) = true := decide_eq_true ⟨d0, d1⟩
    have c2 : decide (-1000000000000000000000000000000 ≤ p ∧ p ≤ 1000000000000000000000000000000) = true := decide_eq_true ⟨p0, p1⟩
    have c3 : decide (-1000000000000000000 ≤ s' ∧ s' ≤ 1000000000000000000) = true := decide_eq_true ⟨s0, s1⟩
    refine ⟨_, rfl, _, rfl, x, _, dx, _, _, _, rfl, hx1, T.c_Painter, n1, rfl, d, 0, _, rfl, _, congrArg V.bl c1, ?_⟩
    refine ⟨_, rfl, _, rfl, x, _, dx, _, _, _, rfl, hx1, T.c_Painter, n2, rfl, _, rfl, _, rfl, x, _, dx, _, _, _, rfl, hx1, T.c_Painter, n2, rfl, p, _, _, rfl, _, congrArg V.bl c2, ?_⟩
    refine ⟨_, rfl, _, rfl, x, _, dx, _, _, _, rfl, hx1, T.c_Painter, n3, rfl, _, rfl, _, rfl, x, _, dx, _, _, _, rfl, hx1, T.c_Painter, n3, rfl, s', _, _, rfl, _, congrArg V.bl c3, ?_⟩
    refine ⟨_, rfl, rfl, _, rfl, ?_⟩
    have c4 : decide (V.int s' = V.int 0) = false := decide_eq_false fun e => sn (V.int.inj e)
    rw [c4]
    refine ⟨_, rfl, _, rfl, _, rfl, _, rfl, by show 4 ≤ sizeLine; decide, fun t ht => ?_⟩
    have e2 : Same H1 (upd H1 t (.tup [.str z, .int d, .int p, .int s'])) := same_new ht
    refine ⟨_, rfl, x, _, dx, _, rfl, e2 _ _ hx1, T.c_Painter, T.a_Painter_parts, (by decide : (0 : Nat) < 1000), ?_⟩
    have htx : t ≠ x := fun z => by rw [z, hx1] at ht; cases ht
    have big : ∀ n : Int, -(2 ^ 200) < n → n < 2 ^ 200 → Sz 1000 n := fun n h1 h2 => (Sz.of h1 h2).mono (by decide)
    refine q _ (((But.of e1).same e2).upd) ⟨dx, t, upd_same, SqT.of ((upd_ne htx).trans upd_same), big _ ?_ ?_, big _ ?_ ?_, big _ ?_ ?_, sn⟩
    · exact Int.lt_of_lt_of_le (by decide) d0
    · exact Int.lt_of_le_of_lt d1 (by decide)
    · exact Int.lt_of_lt_of_le (by decide) p0
    · exact Int.lt_of_le_of_lt p1 (by decide)
    · exact Int.lt_of_lt_of_le (by decide) s0
    · exact Int.lt_of_le_of_lt s1 (by decide)
end PP
end
section
set_option maxHeartbeats 4000000
namespace PP
open PySem PySem.Spec PyProof.Rows L2 PR
variable {P : Program} {w : World} {K : PySem.W.Frag} {mg : Str → Option Value} {base : Heap}

open LamX NdefX
/-! ### fences -/
def plV (ps : List PT) : List (Key × V) := ps.zipIdx.map fun e => (.inr e.1.name, .int (e.2 : Int))
def fnF (pt d : Addr) : Fl := [("listed", .ref pt), ("places", .ref d)]
structure FenceAt (K : PySem.W.Frag) (H : Hp) (a pt : Addr) (pas : List Addr) (ps : List PT) : Prop where
  ex : ∃ dx d, H a = some (.ins (He.ga K "Fence") dx (fnF pt d)) ∧ H d = some (.dK (plV ps))
  w : SqT K H pt (pas.map V.ref)
  pp : Paired (PaintAt K H) pas ps
  nd : (ps.map (·.name)).Nodup
  n8 : ps.length ≤ 8
theorem FenceAt.ex' {H H' : Hp} {a pt : Addr} {pas : List Addr} {ps : List PT} (e : Ex H H') (h : FenceAt K H a pt pas ps) : FenceAt K H' a pt pas ps := by
  obtain ⟨⟨dx, d, h1, h2⟩, h3, h4, h5, h6⟩ := h
  exact ⟨⟨dx, d, e _ _ h1 (by intro ps z; cases z) id, e _ _ h2 (by intro ps z; cases z) id⟩, e.fx.sqT h3, paints_fx e.fx h4, h5, h6⟩
theorem FenceAt.same {H H' : Hp} {a pt : Addr} {pas : List Addr} {ps : List PT} (h : FenceAt K H a pt pas ps) (e : Same H H') : FenceAt K H' a pt pas ps := h.ex' (Off.same e)
def spFPainters (K : PySem.W.Frag) : Sp := fun vs H Q _ => ∃ (a pt : Addr) (pas : List Addr) (ps : List PT), vs = [.ref a] ∧ FenceAt K H a pt pas ps ∧ Q (.ref pt) H
theorem sc_Fence_painters : FnScope ["self"] ["self"] (defScope s_Fence_painters) := ⟨rfl, rfl, rfl, by decide +kernel, rfl, by decide +kernel, by decide +kernel⟩
theorem ok_Fence_painters (T : Txt K mg) : Fn P w K mg base 1 (pg K "Fence" "painters") (spFPainters K) := by
  obtain ⟨fd, F⟩ := T.d_Fence_painters
  refine okR F sc_Fence_painters (fun vs H Q E h => ?_) (fun _ _ _ _ _ _ us hl => match us, hl with | [_], _ => rfl) (fun cdv A outer s H vs Q E hr h => ⟨_, (pss_one (ps_ret (pe_fld (pv 0) rfl))), ?_⟩)
  · obtain ⟨a, pt, pas, ps, rfl, _⟩ := h; rfl
  · obtain ⟨a, pt, pas, ps, rfl, F1, q⟩ := h
    obtain ⟨dx, d, h1, h2⟩ := F1.ex
    exact ⟨_, rfl, a, _, dx, _, _, rfl, h1, T.c_Fence, T.a_Fence_listed, rfl, q⟩
theorem plV_keys (ps : List PT) : (plV ps).map (fun kv => kV kv.1) = ps.map fun p => V.str p.name := by
  unfold plV
  rw [List.map_map]
  have : ∀ (l : List PT) (k : Nat), (l.zipIdx k).map ((fun kv : Key × V => kV kv.1) ∘ fun e => (.inr e.1.name, .int (e.2 : Int))) = l.map fun p => V.str p.name := fun l => by
    induction l with
    | nil => intro k; rfl
    | cons a r ih => intro k; rw [List.zipIdx_cons, List.map_cons, List.map_cons, ih]; rfl
  exact this ps 0
def spFNames (K : PySem.W.Frag) : Sp := fun vs H Q _ => ∃ (a pt : Addr) (pas : List Addr) (ps : List PT), vs = [.ref a] ∧ FenceAt K H a pt pas ps ∧ ∀ t H', Same H H' → SqT K H' t (ps.map fun p => V.str p.name) → Q (.ref t) H'
theorem sc_Fence_names : FnScope ["self"] ["self"] (defScope s_Fence_names) := ⟨rfl, rfl, rfl, by decide +kernel, rfl, by decide +kernel, by decide +kernel⟩
theorem ok_Fence_names (T : Txt K mg) : Fn P w K mg base 1 (pg K "Fence" "names") (spFNames K) := by
  obtain ⟨fd, F⟩ := T.d_Fence_names
  refine okR F sc_Fence_names (fun vs H Q E h => ?_) (fun _ _ _ _ _ _ us hl => match us, hl with | [_], _ => rfl) (fun cdv A outer s H vs Q E hr h => ⟨_, (pss_one (ps_ret (pe_callTy (call_tuple_dK rfl) (by rfl) T.f_tuple (by decide +kernel) (pa_cons (pe_fld (pv 0) rfl) pa_nil)))), ?_⟩)
  · obtain ⟨a, pt, pas, ps, rfl, _⟩ := h; rfl
  · obtain ⟨a, pt, pas, ps, rfl, F1, q⟩ := h
    obtain ⟨dx, d, h1, h2⟩ := F1.ex
    refine ⟨_, rfl, a, _, dx, _, _, rfl, h1, T.c_Fence, T.a_Fence_places, rfl, d, _, rfl, h2, fun t ht => q t _ (same_new ht) ?_⟩
    rw [plV_keys]
    exact SqT.of upd_same
def spFLen (K : PySem.W.Frag) : Sp := fun vs H Q _ => ∃ (a pt : Addr) (pas : List Addr) (ps : List PT), vs = [.ref a] ∧ FenceAt K H a pt pas ps ∧ Q (.int (ps.length : Int)) H
theorem sc_Fence_len : FnScope ["self"] ["self"] (defScope s_Fence_len) := ⟨rfl, rfl, rfl, by decide +kernel, rfl, by decide +kernel, by decide +kernel⟩
theorem ok_Fence_len (T : Txt K mg) : Fn P w K mg base 1 (He.ma K (He.ga K "Fence") "__len__") (spFLen K) := by
  obtain ⟨fd, F⟩ := T.d_Fence_len
  refine okR F sc_Fence_len (fun vs H Q E h => ?_) (fun _ _ _ _ _ _ us hl => match us, hl with | [_], _ => rfl) (fun cdv A outer s H vs Q E hr h => ⟨_, (pss_one (ps_ret (pe_callB call_len_seq (by rfl) T.f_len (by decide +kernel) (pa_cons (pe_fld (pv 0) rfl) pa_nil)))), ?_⟩)
  · obtain ⟨a, pt, pas, ps, rfl, _⟩ := h; rfl
  · obtain ⟨a, pt, pas, ps, rfl, F1, q⟩ := h
    obtain ⟨dx, d, h1, h2⟩ := F1.ex
    have hn : ((pas.map V.ref).length : Int) = (ps.length : Int) := by rw [List.length_map, Paired.length F1.pp]
    rw [← hn] at q
    exact ⟨_, rfl, a, _, dx, _, _, rfl, h1, T.c_Fence, T.a_Fence_listed, rfl, pt, _, rfl, .inr F1.w, q⟩
theorem valV_pl {ps : List PT} {z : Str} (h : z ∈ ps.map (·.name)) : (valV (plV ps) (.inr z)).isSome = true := by
  rw [← valV_any]
  rw [List.any_eq_true]
  obtain ⟨p, hp, rfl⟩ := List.mem_map.mp h
  obtain ⟨i, hi⟩ := List.mem_iff_getElem?.mp hp
  refine ⟨(.inr p.name, .int (i : Int)), List.mem_map.mpr ⟨(p, i), ?_, rfl⟩, by simp⟩
  rw [List.mk_mem_zipIdx_iff_getElem?]
  exact hi
def spFHas (K : PySem.W.Frag) : Sp := fun vs H Q _ => ∃ (a pt : Addr) (pas : List Addr) (ps : List PT) (z : Str), vs = [.ref a, .str z] ∧ FenceAt K H a pt pas ps ∧ z ∈ ps.map (·.name) ∧ Q (.bl true) H
theorem sc_Fence_contains : FnScope ["self", "name"] ["self", "name"] (defScope s_Fence_contains) := ⟨rfl, rfl, rfl, by decide +kernel, rfl, by decide +kernel, by decide +kernel⟩
theorem ok_Fence_contains (T : Txt K mg) : Fn P w K mg base 1 (He.ma K (He.ga K "Fence") "__contains__") (spFHas K) := by
  obtain ⟨fd, F⟩ := T.d_Fence_contains
  refine okR F sc_Fence_contains (fun vs H Q E h => ?_) (fun _ _ _ _ _ _ us hl => match us, hl with | [_, _], _ => rfl) (fun cdv A outer s H vs Q E hr h => ⟨_, (pss_one (ps_ret (pe_and (pe_callB call_isi (by rfl) T.f_isinstance (by decide +kernel) (pa_cons (pv 1) (pa_cons (pe_bltn (v := .ty "str") (by rfl) T.f_str (by decide +kernel) rfl) pa_nil))) (pe_one (pe_cmp (pc_din (hu_of hr) (pv 1) (pe_fld (pv 0) rfl)) rfl))))), ?_⟩)
  · obtain ⟨a, pt, pas, ps, z, rfl, _⟩ := h; rfl
  · obtain ⟨a, pt, pas, ps, z, rfl, F1, hz, q⟩ := h
    obtain ⟨dx, d, h1, h2⟩ := F1.ex
    refine ⟨_, rfl, _, _, _, _, true, rfl, .ty "str", .base (.str z), kit_ty (by decide +kernel), true, rfl, ?_⟩
    refine ⟨_, rfl, _, rfl, a, _, dx, _, _, rfl, h1, T.c_Fence, T.a_Fence_places, rfl, d, _, rfl, DGet.k (k := .inr z) h2, ?_⟩
    rw [valV_pl hz]
    exact q
def spFNeed (K : PySem.W.Frag) : Sp := fun vs H Q _ => ∃ (a pt : Addr) (pas : List Addr) (ps : List PT) (z : Str), vs = [.ref a, .str z] ∧ FenceAt K H a pt pas ps ∧ z ∈ ps.map (·.name) ∧ Q .non H
theorem sc_Fence_need_name : FnScope ["self", "value"] ["self", "value"] (defScope s_Fence_need_name) := ⟨rfl, rfl, rfl, by decide +kernel, rfl, by decide +kernel, by decide +kernel⟩
theorem ok_Fence_need_name (T : Txt K mg) : Fn P w K mg base 2 (He.ma K (He.ga K "Fence") "need_name") (spFNeed K) := by
  obtain ⟨fd, F⟩ := T.d_Fence_need_name
  refine okR F sc_Fence_need_name (fun vs H Q E h => ?_) (fun _ _ _ _ _ _ us hl => match us, hl with | [_, _], _ => rfl) (fun cdv A outer s H vs Q E hr h => ⟨_, (pss_one (ps_if (pt_cmpR (op_notInOwn T.o_Fence_contains (ok_Fence_contains (P := P) (w := w) (base := base) T) (hr.mono (by decide)) pass0) (pv 1) (pv 0) rfl) (pss_one ps_never) pss_nil)), ?_⟩)
  · obtain ⟨a, pt, pas, ps, z, rfl, _⟩ := h; rfl
  · obtain ⟨a, pt, pas, ps, z, rfl, F1, hz, q⟩ := h
    obtain ⟨dx, d, h1, h2⟩ := F1.ex
    exact ⟨_, rfl, _, rfl, a, dx, _, rfl, h1, a, pt, pas, ps, z, rfl, F1, hz, true, rfl, _, rfl, q⟩
end PP
end
section
set_option maxHeartbeats 4000000
namespace PP
open PySem PySem.Spec PyProof.Rows L2 PR
variable {P : Program} {w : World} {K : PySem.W.Frag} {mg : Str → Option Value} {base : Heap}

open LamX NdefX
/-! ### Fence.__init__ -/
def spFenceB (K : PySem.W.Frag) : Sp := fun vs H Q _ => ∃ (x dx pt : Addr) (pas : List Addr) (ps : List PT), vs = [.ref x, .ref pt] ∧ H x = some (.ins (He.ga K "Fence") dx []) ∧ SqT K H pt (pas.map V.ref) ∧ Paired (PaintAt K H) pas ps ∧ (ps.map (·.name)).Nodup ∧ ps.length ≤ 8 ∧
  ∀ H', But x H H' → FenceAt K H' x pt pas ps → Q .non H'
def spFenceI (K : PySem.W.Frag) : Sp := fun vs H Q _ => ∃ (x dx : Addr) (pas : List Addr) (ps : List PT), vs = .ref x :: pas.map V.ref ∧ H x = some (.ins (He.ga K "Fence") dx []) ∧ Paired (PaintAt K H) pas ps ∧ (ps.map (·.name)).Nodup ∧ ps.length ≤ 8 ∧
  ∀ H' pt, But x H H' → FenceAt K H' x pt pas ps → Q .non H'
theorem plV_snoc (l : List PT) (p : PT) : plV (l ++ [p]) = plV l ++ [(.inr p.name, .int (l.length : Int))] := by
  unfold plV
  rw [List.zipIdx_append, List.map_append]
  simp
theorem plV_none {l : List PT} {z : Str} (h : z ∉ l.map (·.name)) : valV (plV l) (.inr z) = none := by
  cases q : valV (plV l) (.inr z) with
  | none => rfl
  | some v =>
    have h1 := valV_any (.inr z : Key) (plV l)
    rw [q] at h1
    obtain ⟨e, he, h2⟩ := List.any_eq_true.mp h1
    unfold plV at he
    obtain ⟨e0, h3, rfl⟩ := List.mem_map.mp he
    have h4 : (Sum.inr e0.1.name : Key) = .inr z := of_decide_eq_true h2
    refine absurd (List.mem_map.mpr ⟨e0.1, ?_, Sum.inr.inj h4⟩) h
    obtain ⟨_, h5, _⟩ := List.mem_zipIdx h3
    have := List.fst_mem_of_mem_zipIdx h3
    exact this
theorem bd_Fence_init {kV doc pm : Value} {an : Option Addr} {cdv ct : Value} : ∀ us rest : List Value, us.length = ["self"].length → bindArgs (PySem.W.fnOf "__init__" "Fence.__init__" (defArgs s_Fence_init) (defBody s_Fence_init) (defScope s_Fence_init) .none kV doc pm an cdv ct) ⟨us ++ rest, []⟩ = (newTuple rest >>= fun t => pure ([("self" : Str)].zip us ++ [(("painters" : Str), t)])) :=
  StX.bind_star1 (p1 := "self") (pv := "painters") (B := fun l => bindArgs (PySem.W.fnOf "__init__" "Fence.__init__" (defArgs s_Fence_init) (defBody s_Fence_init) (defScope s_Fence_init) .none kV doc pm an cdv ct) ⟨l, []⟩) (fun a => rfl) (fun a r rs => rfl)
theorem sc_Fence_init : FnScope ["self", "painters", "index", "painter", "names", "name"] ["self", "painters"] (defScope s_Fence_init) := ⟨rfl, rfl, rfl, by decide +kernel, rfl, by decide +kernel, by decide +kernel⟩
theorem ok_Fence_init (T : Txt K mg) : Fn P w K mg base 3 (He.ma K (He.ga K "Fence") "__init__") (spFenceI K) := by
  obtain ⟨fd, F⟩ := T.d_Fence_init
  have G_Painter_name := ok_Painter_name (P := P) (w := w) (base := base) T
  obtain ⟨tk_MAX_PAINTERS, hc_MAX_PAINTERS⟩ := T.i_MAX_PAINTERS
  obtain ⟨oc, od, dV, kV, doc, pm, an, cdv, ct, osl, rfl, lk, hcd, hdv, _⟩ := F.ex
  obtain ⟨_, rfl⟩ : ([] : List V) = [] ∧ dV = .none := hdv.elim id fun z => absurd rfl z.1
  have key : Fn P w K mg base 3 (He.ma K (He.ga K "Fence") "__init__") _ := StX.fn_star (ps := ["self"]) (pv := "painters") (sp := spFenceB K) lk hcd sc_Fence_init StX.cxUp_none bd_Fence_init (fun A outer s H vs Q E hr h => ⟨_, PSs.nox ((pss_cons (ps_for PassesOwn.never rfl (pi_enumT (by rfl) T.f_enumerate (pa_cons (pv 1) pa_nil)) (pg_tup rfl (pgs_cons (pg_name (i := 2) sc_Fence_init.nd rfl (.inl rfl)) (pgs_cons (pg_name (i := 3) sc_Fence_init.nd rfl (.inl rfl)) pgs_nil))) (pss_one (ps_if (pt_not (pt_val (pe_callB call_isi (by rfl) T.f_isinstance (by decide +kernel) (pa_cons (pv 3) (pa_cons (pe_glob (v := .ref (He.ga K "Painter")) rfl T.g_Painter rfl) pa_nil))))) (pss_one ps_never) pss_nil)))
    (pss_cons (ps_setLc (i := 4) (own := [("painter", 3)]) rfl sc_Fence_init.nd rfl rfl (sw_true rfl rfl rfl (by decide +kernel)) (pi_tup (pv 1)) (blkOk_by (own := [("painter", 3)]) (N := ["self", "painters", "index", "painter", "names", "name"]) (sc := defScope s_Fence_init) (by decide +kernel)) (fun _ _ _ _ _ => (pg_name (i := 3) sc_Fence_init.nd rfl (.inl rfl) (hf := .inr rfl))) (fun _ _ _ _ _ => pts_nil) (fun _ _ _ _ _ => (pe_propR (pv 3) T.c_Painter T.p_Painter_name G_Painter_name (hr.mono (by decide)))))
    (pss_cons (ps_for PassesOwn.never rfl (pi_enum (by rfl) T.f_enumerate (pa_cons (pv 4) pa_nil)) (pg_tup rfl (pgs_cons (pg_name (i := 2) sc_Fence_init.nd rfl (.inl rfl)) (pgs_cons (pg_name (i := 5) sc_Fence_init.nd rfl (.inl rfl)) pgs_nil))) (pss_one (ps_if (pt_cmpR op_in_seq (pv 5) (pe_slice sl_list (pv 4) po_none (po_some (pv 2))) rfl) (pss_one ps_never) pss_nil)))
    (pss_cons (ps_if (pt_cmpR op_gt (pe_callB call_len_seq (by rfl) T.f_len (by decide +kernel) (pa_cons (pv 1) pa_nil)) (pe_glob (v := .int 40) rfl hc_MAX_PAINTERS ⟨_, rfl⟩) (nomark _)) (pss_one ps_never) pss_nil)
    (pss_cons (ps_fld (pv 0) (pv 1) rfl)
    (pss_one (ps_fld (pv 0) (pe_dc (own := [("index", 2), ("name", 5)]) (g := gTup K 2 (gCons (gName 2) (gCons (gName 5) gNil))) rfl sc_Fence_init.nd (pi_enum (by rfl) T.f_enumerate (pa_cons (pv 4) pa_nil)) (blkOk_by (own := [("index", 2), ("name", 5)]) (N := ["self", "painters", "index", "painter", "names", "name"]) (sc := defScope s_Fence_init) (by decide +kernel)) (fun _ _ _ _ _ => (pg_tup rfl (pgs_cons (pg_name (i := 2) sc_Fence_init.nd rfl (.inl rfl) (hf := .inr rfl)) (pgs_cons (pg_name (i := 5) sc_Fence_init.nd rfl (.inl rfl) (hf := .inr rfl)) pgs_nil)))) (fun _ _ _ _ _ => pts_nil) (fun _ _ _ _ _ => (pv 5)) (fun _ _ _ _ _ => (pv 2))) rfl)))))))), ?_⟩)
  · refine key.imp fun vs H Q E ⟨x, dx, pas, ps, e, hx, hpp, hnd, h8, q⟩ => ⟨[.ref x], pas.map V.ref, by rw [e]; rfl, rfl, ?_, fun p hp => ?_⟩
    · rw [List.length_map, Paired.length hpp]
      exact Nat.le_trans h8 (by decide)
    · have e1 : Same H (upd H p (.tup (pas.map V.ref))) := same_new hp
      exact ⟨x, dx, p, pas, ps, rfl, e1 _ _ hx, SqT.of upd_same, paints_fx (Fx.same e1) hpp, hnd, h8, fun H' b f => q H' p ((But.of e1).trans b) f⟩
  · obtain ⟨x, dx, pt, pas, ps, rfl, hx, hw, hpp, hnd, h8, q⟩ := h
    have hn : (pas.map V.ref).length = ps.length := by rw [List.length_map, Paired.length hpp]
    refine ⟨_, rfl, pt, _, rfl, hw, ?_⟩
    refine for_it walk_enumT (fun i σ H' => Same H H' ∧ ∃ (z1 z2 z3 z4 : Option V), σ = [some (.ref x), some (.ref pt), z1, z2, z3, z4]) ⟨Same.refl H, _, _, _, _, rfl⟩ (fun i σ H' _ ⟨e, _⟩ => same_sqT e hw) (fun i v σ Hc H' hi ⟨eS, z1, z2, z3, z4, eσ⟩ y => ?_) (fun σ H1 ⟨e1, z1, z2, z3, z4, eσ⟩ => ?_)
    · subst eσ
      obtain ⟨Tt, kx, vx, rfl, hTn, rfl, hk1, hv⟩ := y
      cases hk1
      dsimp only at hv
      rw [List.getElem?_map] at hv
      obtain ⟨pa, hpa, ev⟩ := Option.map_eq_some_iff.mp hv
      subst ev
      obtain ⟨P0, hP0, hPA⟩ := PR.paired_get hpp hpa
      have eT := eS.trans (same_new (o := .tup [.int (i : Int), .ref pa]) hTn)
      obtain ⟨dp, tp, hp1, _⟩ := hPA.fx (Fx.same eT)
      refine ⟨Tt, _, rfl, SqT.of upd_same, rfl, _, _, rfl, _, _, rfl, rfl, ?_⟩
      exact ⟨_, rfl, .ref pa, .ref (He.ga K "Painter"), _, _, true, rfl, .own _, .base (.ins hp1 T.c_Painter T.ip1 T.ip2 T.ip3 T.ip4), T.ip5, true, rfl, eT, _, _, _, _, rfl⟩
    subst eσ
    -- names
    refine ⟨_, rfl, pt, rfl, ⟨_, same_sqT e1 hw⟩, fun nl hnl => ?_⟩
    refine lc_it walk_tup (fun i H' => Same H1 H' ∧ H' nl = some (.lst ((ps.take i).map fun p => V.str p.name))) ⟨same_new hnl, upd_same⟩ (fun i H' _ ⟨e, _⟩ => same_sqT (e1.trans e) hw) (fun i v Hc H' hi ⟨eS, hL⟩ y => ?_) (fun H2 ⟨e2, hL2⟩ => ?_)
    · obtain ⟨rfl, hv⟩ := y
      rw [List.getElem?_map] at hv
      obtain ⟨pa, hpa, ev⟩ := Option.map_eq_some_iff.mp hv
      subst ev
      obtain ⟨P0, hP0, hPA⟩ := PR.paired_get hpp hpa
      have hPA' := hPA.fx (Fx.same (e1.trans eS))
      obtain ⟨dp, tp, hp1, _⟩ := id hPA'
      rw [hn] at hi
      refine ⟨rfl, _, rfl, pa, dp, _, rfl, hp1, pa, P0, rfl, hPA', _, hL, ?_, same_put eS hnl, ?_⟩
      · rw [List.length_map, List.length_take]
        exact Nat.lt_of_le_of_lt (Nat.min_le_left _ _) (Nat.lt_of_lt_of_le hi (Nat.le_trans h8 (by decide)))
      · rw [upd_same, take_snoc hP0, List.map_append]; rfl
    rw [hn, List.take_length] at hL2
    have e12 := e1.trans e2
    -- no name twice
    refine ⟨_, rfl, nl, _, rfl, .inl (.inl hL2), ?_⟩
    refine for_it walk_enum (fun i σ H' => Same H2 H' ∧ ∃ (z1 z2 z3 : Option V), σ = [some (.ref x), some (.ref pt), z1, z2, some (.ref nl), z3]) ⟨Same.refl H2, _, _, _, rfl⟩ (fun i σ H' _ ⟨e, _⟩ => .inl (.inl (e _ _ hL2))) (fun i v σ Hc H' hi ⟨eS, z1, z2, z3, eσ⟩ y => ?_) (fun σ H3 ⟨e3, z1, z2, z3, eσ⟩ => ?_)
    · subst eσ
      obtain ⟨Tt, kx, vx, rfl, hTn, rfl, hk1, hv⟩ := y
      cases hk1
      dsimp only at hv
      rw [List.getElem?_map] at hv
      obtain ⟨P0, hP0, ev⟩ := Option.map_eq_some_iff.mp hv
      subst ev
      have eT := eS.trans (same_new (o := .tup [.int (i : Int), .str P0.name]) hTn)
      refine ⟨Tt, _, rfl, SqT.of upd_same, rfl, _, _, rfl, _, _, rfl, rfl, ?_⟩
      refine ⟨_, rfl, _, rfl, _, rfl, _, rfl, nl, _, rfl, .inl (.inl (eT _ _ hL2)), fun p hp => ?_⟩
      have hcut : cutV (ps.map fun p => V.str p.name) none (some (i : Int)) = (ps.take i).map fun p => V.str p.name := by
        unfold cutV
        have hle : i ≤ ps.length := Nat.le_of_lt (by rw [List.length_map] at hi; exact hi)
        rw [HT.sIx_none, HT.sIx_nat, List.length_map, Nat.min_eq_left hle, List.drop_zero, Nat.sub_zero, List.map_take]
      rw [hcut]
      refine ⟨p, (ps.take i).map fun p => V.str p.name, rfl, .inl (.inl (.inl upd_same)), rfl, (List.all_eq_true.mpr fun v hv => by obtain ⟨P1, _, rfl⟩ := List.mem_map.mp hv; rfl), _, rfl, ?_⟩
      have hin : inV (V.str P0.name) ((ps.take i).map fun p => V.str p.name) = false := by
        unfold inV
        rw [List.any_eq_false]
        intro v hv
        obtain ⟨P1, hP1, rfl⟩ := List.mem_map.mp hv
        obtain ⟨j, hj⟩ := List.mem_iff_getElem?.mp hP1
        intro h
        have h : (P1.name == P0.name) = true := h
        have h := eq_of_beq h
        have hji : j < i := by
          have := (List.getElem?_eq_some_iff.mp hj).1
          rw [List.length_take] at this
          omega
        rw [List.getElem?_take_of_lt hji] at hj
        have e1 : (ps.map (·.name))[j]? = some P1.name := by rw [List.getElem?_map, hj]; rfl
        have e2 : (ps.map (·.name))[i]? = some P1.name := by rw [List.getElem?_map, hP0, h]; rfl
        have := nodup_get hnd e1 e2
        omega
      rw [hin]
      exact ⟨eT.trans (same_new hp), _, _, _, rfl⟩
    subst eσ
    have e13 := e12.trans e3
    -- not too many
    refine ⟨_, rfl, pt, _, rfl, .inr (same_sqT e13 hw), _, _, rfl, rfl, _, rfl, ?_⟩
    rw [hn, decide_eq_false (by omega)]
    have hx3 := e13 _ _ hx
    refine ⟨_, rfl, _, rfl, x, _, dx, _, rfl, hx3, T.c_Fence, T.a_Fence_listed, (by decide : (0 : Nat) < 1000), ?_⟩
    have b4 : But x H (upd H3 x (.ins (He.ga K "Fence") dx [("listed", .ref pt)])) := (But.of e13).upd
    have hnl4 : (upd H3 x (.ins (He.ga K "Fence") dx [("listed", .ref pt)])) nl = some (.lst (ps.map fun p => V.str p.name)) := (upd_ne (ne_of (e3 _ _ hL2) hx3 (by intro z; cases z))).trans (e3 _ _ hL2)
    refine ⟨_, rfl, nl, _, rfl, .inl (.inl hnl4), fun d hd => ?_⟩
    refine dc_it walk_enum (fun i H' => Same (upd H3 x (.ins (He.ga K "Fence") dx [("listed", .ref pt)])) H' ∧ H' d = some (.dK (plV (ps.take i)))) ⟨same_new hd, upd_same⟩ (fun i H' _ ⟨e, _⟩ => .inl (.inl (e _ _ hnl4))) (fun i v Hc H' hi ⟨eS, hL⟩ y => ?_) (fun H5 ⟨e5, hL5⟩ => ?_)
    · obtain ⟨Tt, kx, vx, rfl, hTn, rfl, hk1, hv⟩ := y
      cases hk1
      dsimp only at hv
      rw [List.getElem?_map] at hv
      obtain ⟨P0, hP0, ev⟩ := Option.map_eq_some_iff.mp hv
      subst ev
      rw [List.length_map] at hi
      have eT := same_new (o := .tup [.int (i : Int), .str P0.name]) hTn
      refine ⟨Tt, _, rfl, SqT.of upd_same, rfl, _, _, rfl, _, _, rfl, rfl, rfl, _, rfl, _, rfl, _, .inr P0.name, rfl, eT _ _ hL, ?_, same_put (eS.trans eT) hd, ?_⟩
      · unfold plV
        rw [List.length_map, List.length_zipIdx, List.length_take]
        exact Nat.lt_of_le_of_lt (Nat.min_le_left _ _) (Nat.lt_of_lt_of_le hi (Nat.le_trans h8 (by decide)))
      · have hnot : P0.name ∉ (ps.take i).map (·.name) := fun hm => by
          obtain ⟨P1, hP1, hne⟩ := List.mem_map.mp hm
          obtain ⟨j, hj⟩ := List.mem_iff_getElem?.mp hP1
          have hji : j < i := by
            have := (List.getElem?_eq_some_iff.mp hj).1
            rw [List.length_take] at this
            omega
          rw [List.getElem?_take_of_lt hji] at hj
          have f1 : (ps.map (·.name))[j]? = some P0.name := by rw [List.getElem?_map, hj, ← hne]; rfl
          have f2 : (ps.map (·.name))[i]? = some P0.name := by rw [List.getElem?_map, hP0]; rfl
          have := nodup_get hnd f1 f2
          omega
        rw [upd_same, putK_new _ (plV_none hnot), take_snoc hP0, plV_snoc, List.length_take, Nat.min_eq_left (Nat.le_of_lt hi)]
    · rw [List.length_map, List.take_length] at hL5
      refine ⟨_, rfl, x, _, dx, _, rfl, e5 _ _ upd_same, T.c_Fence, T.a_Fence_places, (by decide : (1 : Nat) < 1000), ?_⟩
      have b6 : But x H (upd H5 x (.ins (He.ga K "Fence") dx (fnF pt d))) := (b4.same e5).upd
      have hdx : d ≠ x := fun z => by rw [z, upd_same] at hd; cases hd
      refine q _ b6 ⟨⟨dx, d, upd_same, (upd_ne hdx).trans hL5⟩, b6.sqT hx hw, ?_, hnd, h8⟩
      refine pr_imp hpp fun pa P0 ⟨dp, tp, g1, g2, g3⟩ => ⟨dp, tp, b6 _ _ g1 (fun z => ?_), b6.sqT hx g2, g3⟩
      rw [z, hx] at g1
      have g4 := Option.some.inj g1
      injection g4 with _ _ g5
      cases g5
end PP
end
section
set_option maxHeartbeats 4000000
namespace PP
open PySem PySem.Spec PyProof.Rows L2 PR
variable {P : Program} {w : World} {K : PySem.W.Frag} {mg : Str → Option Value} {base : Heap}

open LamX NdefX
structure PtOk (p : PT) : Prop where
  nm : NameOk p.name
  d0 : 0 ≤ p.day
  d1 : p.day ≤ 1000000000000000000000000000000
  p0 : -1000000000000000000000000000000 ≤ p.post
  p1 : p.post ≤ 1000000000000000000000000000000
  s0 : -1000000000000000000 ≤ p.str
  s1 : p.str ≤ 1000000000000000000
  sn : p.str ≠ 0
theorem same_made {H : Hp} {x dx : Addr} {C : Addr} (hx : H x = none) (hdx : H dx = none) (hn : dx ≠ x) : Same H (upd (upd H dx (.own x)) x (.ins C dx [])) := (same_new hdx).trans (same_new ((upd_ne hn.symm).trans hx))
theorem but_same {H H1 H2 : Hp} {x : Addr} (e : Same H H1) (b : But x H1 H2) (hx : H x = none) : Same H H2 := fun c o h => b c o (e c o h) (ne_of_none h hx)
/-! ### fence + painter -/
def spFAdd (K : PySem.W.Frag) : Sp := fun vs H Q _ => ∃ (a pt pa : Addr) (pas : List Addr) (ps : List PT) (P0 : PT), vs = [.ref a, .ref pa] ∧ FenceAt K H a pt pas ps ∧ PaintAt K H pa P0 ∧ ((ps ++ [P0]).map (·.name)).Nodup ∧ ps.length + 1 ≤ 8 ∧
  ∀ x pt' H', Same H H' → H x = none → FenceAt K H' x pt' (pas ++ [pa]) (ps ++ [P0]) → Q (.ref x) H'
theorem sc_Fence_add : FnScope ["self", "painter"] ["self", "painter"] (defScope s_Fence_add) := ⟨rfl, rfl, rfl, by decide +kernel, rfl, by decide +kernel, by decide +kernel⟩
theorem ok_Fence_add (T : Txt K mg) : Fn P w K mg base 5 (He.ma K (He.ga K "Fence") "__add__") (spFAdd K) := by
  obtain ⟨fd, F⟩ := T.d_Fence_add
  have G_Fence_init := ok_Fence_init (P := P) (w := w) (base := base) T
  refine okR F sc_Fence_add (fun vs H Q E h => ?_) (fun _ _ _ _ _ _ us hl => match us, hl with | [_, _], _ => rfl) (fun cdv A outer s H vs Q E hr h => ⟨_, (pss_cons (ps_if (pt_not (pt_val (pe_callB call_isi (by rfl) T.f_isinstance (by decide +kernel) (pa_cons (pv 1) (pa_cons (pe_glob (v := .ref (He.ga K "Painter")) rfl T.g_Painter rfl) pa_nil))))) (pss_one ps_never) pss_nil)
    (pss_one (ps_ret (pe_makeS2 T.k_Fence G_Fence_init (hr.mono (by decide)) T.g_Fence (StX.pa_star (pe_fld (pv 0) rfl) (pa_cons (pv 1) pa_nil)))))), ?_⟩)
  · obtain ⟨a, pt, pa, pas, ps, P0, rfl, _⟩ := h; rfl
  · obtain ⟨a, pt, pa, pas, ps, P0, rfl, F1, hP, hnd, h8, q⟩ := h
    obtain ⟨dx, d, h1, h2⟩ := F1.ex
    obtain ⟨dp, tp, hp1, _⟩ := id hP
    refine ⟨_, rfl, .ref pa, .ref (He.ga K "Painter"), _, _, true, rfl, .own _, .base (.ins hp1 T.c_Painter T.ip1 T.ip2 T.ip3 T.ip4), T.ip5, true, rfl, ?_⟩
    refine ⟨_, rfl, a, _, dx, _, _, rfl, h1, T.c_Fence, T.a_Fence_listed, rfl, pt, _, rfl, .inl F1.w, _, rfl, fun x dx' hx hdx hne => ?_⟩
    have e1 := same_made (C := He.ga K "Fence") hx hdx hne
    refine ⟨x, dx', pas ++ [pa], ps ++ [P0], ?_, upd_same, ?_, hnd, by rw [List.length_append]; exact h8, fun H' pt' b f => ⟨rfl, q x pt' H' (but_same e1 b hx) hx f⟩⟩
    · rw [List.map_append]; rfl
    · exact paints_fx (Fx.same e1) (pr_snoc F1.pp hP)
/-! ### widened, moved -/
def widP (f : Int) (p : PT) : PT := ⟨p.name, p.day, p.post * f, p.str * f⟩
def movP (a b : Int) (p : PT) : PT := ⟨p.name, p.day + b, p.post + a, p.str⟩
def spWid (K : PySem.W.Frag) : Sp := fun vs H Q _ => ∃ (a pt : Addr) (pas : List Addr) (ps : List PT) (f : Int), vs = [.ref a, .int f] ∧ FenceAt K H a pt pas ps ∧ 1 ≤ f ∧ f ≤ 1000000000000000000 ∧ (∀ p ∈ ps, PtOk (widP f p)) ∧
  ∀ x pt' pas' H', Same H H' → FenceAt K H' x pt' pas' (ps.map (widP f)) → Q (.ref x) H'
def spMov (K : PySem.W.Frag) : Sp := fun vs H Q _ => ∃ (a pt : Addr) (pas : List Addr) (ps : List PT) (c b : Int), vs = [.ref a, .int c, .int b] ∧ FenceAt K H a pt pas ps ∧ (∀ p ∈ ps, PtOk (movP c b p)) ∧
  ∀ x pt' pas' H', Same H H' → FenceAt K H' x pt' pas' (ps.map (movP c b)) → Q (.ref x) H'
theorem sc_Fence_widened : FnScope ["self", "factor", "found", "painter"] ["self", "factor"] (defScope s_Fence_widened) := ⟨rfl, rfl, rfl, by decide +kernel, rfl, by decide +kernel, by decide +kernel⟩
theorem ok_Fence_widened (T : Txt K mg) : Fn P w K mg base 5 (He.ma K (He.ga K "Fence") "widened") (spWid K) := by
  obtain ⟨fd, F⟩ := T.d_Fence_widened
  have G_Fence_init := ok_Fence_init (P := P) (w := w) (base := base) T
  have G_Painter_init := ok_Painter_init (P := P) (w := w) (base := base) T
  have G_Painter_stride := ok_Painter_stride (P := P) (w := w) (base := base) T
  have G_Painter_post := ok_Painter_post (P := P) (w := w) (base := base) T
  have G_Painter_day := ok_Painter_day (P := P) (w := w) (base := base) T
  have G_Painter_name := ok_Painter_name (P := P) (w := w) (base := base) T
  have G_is_between := ok_is_between (P := P) (w := w) (base := base) T
  obtain ⟨tk_MAX_STRIDE, hc_MAX_STRIDE⟩ := T.i_MAX_STRIDE
  refine okR F sc_Fence_widened (fun vs H Q E h => ?_) (fun _ _ _ _ _ _ us hl => match us, hl with | [_, _], _ => rfl) (fun cdv A outer s H vs Q E hr h => ⟨_, (pss_cons (ps_if (pt_not (pt_val (pe_callR G_is_between (hr.mono (by decide)) T.g_is_between (T.d_is_between.elim fun _ F => F.kp) (pa_cons (pv 1) (pa_cons pe_int (pa_cons (pe_glob (v := .int 1000000000000000000) rfl hc_MAX_STRIDE ⟨_, rfl⟩) pa_nil)))))) (pss_one ps_never) pss_nil)
    (pss_cons (ps_set (i := 2) sc_Fence_widened.nd rfl (.inl rfl) (pe_lst pa_nil))
    (pss_cons (ps_for PassesOwn.never rfl (pi_tup (pe_fld (pv 0) rfl)) (pg_name (i := 3) sc_Fence_widened.nd rfl (.inl rfl)) (pss_one (ps_expr (pe_bm PySem.F.plainAttrs_list PySem.F.slot_list_append PySem.F.type_list_append mt_append (pv 2) (pa_cons (StX.pe_makeR T.k_Painter G_Painter_init (hr.mono (by decide)) (by rfl) T.g_Painter pass0 (pa_cons (pe_propR (pv 3) T.c_Painter T.p_Painter_name G_Painter_name (hr.mono (by decide))) (pa_cons (pe_propR (pv 3) T.c_Painter T.p_Painter_day G_Painter_day (hr.mono (by decide))) (pa_cons (pe_op op_mulW (pe_propR (pv 3) T.c_Painter T.p_Painter_post G_Painter_post (hr.mono (by decide))) (pv 1)) (pa_cons (pe_op op_mulW (pe_propR (pv 3) T.c_Painter T.p_Painter_stride G_Painter_stride (hr.mono (by decide))) (pv 1)) pa_nil))))) pa_nil)))))
    (pss_one (ps_ret (pe_makeS1 T.k_Fence G_Fence_init (hr.mono (by decide)) T.g_Fence (pv 2))))))), ?_⟩)
  · obtain ⟨a, pt, pas, ps, f, rfl, _⟩ := h; rfl
  · obtain ⟨a, pt, pas, ps, f, rfl, F1, f0, f1, hok, q⟩ := h
    obtain ⟨dx, d, h1, h2⟩ := F1.ex
    have c1 : decide (1 ≤ f ∧ f ≤ 1000000000000000000) = true := decide_eq_true ⟨f0, f1⟩
    refine ⟨_, rfl, f, 1, _, rfl, _, congrArg V.bl c1, ?_⟩
    refine ⟨by show 0 ≤ sizeLine; decide, fun l hl => ?_⟩
    have e0 : Same H (upd H l (.lst [])) := same_new hl
    have zf : Sz 100 f := Sz.of (Int.lt_of_lt_of_le (by decide) f0) (Int.lt_of_le_of_lt f1 (by decide))
    refine ⟨_, rfl, a, _, dx, _, _, rfl, e0 _ _ h1, T.c_Fence, T.a_Fence_listed, rfl, pt, rfl, ⟨_, same_sqT e0 F1.w⟩, ?_⟩
    have hn : (pas.map V.ref).length = ps.length := by rw [List.length_map, Paired.length F1.pp]
    refine for_tup (xs := pas.map V.ref) (fun i σ H' => Same H H' ∧ ∃ (as : List Addr) (z : Option V), σ = [some (.ref a), some (.int f), some (.ref l), z] ∧ H' l = some (.lst (as.map V.ref)) ∧ Paired (PaintAt K H') as ((ps.take i).map (widP f)))
      ⟨e0, [], _, rfl, upd_same, .nil⟩ (fun i σ H' _ ⟨e, _⟩ => same_sqT e F1.w) (fun i v σ Hc hv ⟨eS, as, z, eσ, hL, hpr⟩ => ?_) (fun σ H' ⟨eS, as, z, eσ, hL, hpr⟩ => ?_)
    · subst eσ
      rw [List.getElem?_map] at hv
      obtain ⟨pa, hpa, ev⟩ := Option.map_eq_some_iff.mp hv
      subst ev
      obtain ⟨P0, hP0, hPA0⟩ := PR.paired_get F1.pp hpa
      have hPA := hPA0.fx (Fx.same eS)
      obtain ⟨dp, tp, hp1, _, wok⟩ := id hPA
      obtain ⟨n1, n2, n3, n4, n5, n6, n7, n8⟩ := hok P0 (List.mem_of_getElem? hP0)
      refine ⟨_, rfl, .inl ⟨rfl, _, .inl (.inl hL)⟩, _, rfl, pa, dp, _, rfl, hp1, pa, P0, rfl, hPA, _, rfl, pa, dp, _, rfl, hp1, pa, P0, rfl, hPA, _, rfl, pa, dp, _, rfl, hp1, pa, P0, rfl, hPA, _, rfl, _, _, rfl, rfl, wok.zx.mul zf (by decide), _, rfl, pa, dp, _, rfl, hp1, pa, P0, rfl, hPA, _, rfl, _, _, rfl, rfl, wok.zs.mul zf (by decide), ?_⟩
      intro x dx' hx hdx hne
      have e1 := same_made (C := He.ga K "Painter") hx hdx hne
      refine ⟨x, dx', P0.name, P0.day, P0.post * f, P0.str * f, rfl, upd_same, n1, n2, n3, n4, n5, n6, n7, n8, fun H2 b2 hPn => ⟨rfl, ?_⟩⟩
      have e2 := but_same e1 b2 hx
      refine ⟨l, _, _, rfl, rfl, e2 _ _ hL, ?_, same_put (eS.trans e2) hl, as ++ [x], _, rfl, ?_, ?_⟩
      · have := Paired.length hpr
        rw [List.length_map, List.length_take] at this
        rw [List.length_map]
        exact Nat.lt_of_le_of_lt (by omega : as.length ≤ ps.length) (Nat.lt_of_le_of_lt F1.n8 (by decide))
      · rw [upd_same, List.map_append]; rfl
      · have e5 := (Fx.refl _).upd (o := .lst (as.map V.ref ++ [V.ref x])) (e2 _ _ hL) lst_nf
        rw [take_snoc hP0, List.map_append]
        exact pr_snoc (paints_fx ((Fx.same e2).trans e5) hpr) (hPn.fx e5)
    · subst eσ
      rw [hn, List.take_length] at hpr
      refine ⟨_, rfl, l, _, rfl, .inr (.inl (.inl hL)), fun x dx' hx hdx hne => ?_⟩
      have e1 := same_made (C := He.ga K "Fence") hx hdx hne
      refine ⟨x, dx', as, ps.map (widP f), rfl, upd_same, paints_fx (Fx.same e1) hpr, ?_, by rw [List.length_map]; exact F1.n8, fun H' pt' b g => ⟨rfl, q x pt' as H' (eS.trans (but_same e1 b hx)) g⟩⟩
      rw [List.map_map]
      exact F1.nd
theorem sc_Fence_moved : FnScope ["self", "posts", "days", "found", "painter"] ["self", "posts", "days"] (defScope s_Fence_moved) := ⟨rfl, rfl, rfl, by decide +kernel, rfl, by decide +kernel, by decide +kernel⟩
theorem ok_Fence_moved (T : Txt K mg) : Fn P w K mg base 5 (He.ma K (He.ga K "Fence") "moved") (spMov K) := by
  obtain ⟨fd, F⟩ := T.d_Fence_moved
  have G_Fence_init := ok_Fence_init (P := P) (w := w) (base := base) T
  have G_Painter_init := ok_Painter_init (P := P) (w := w) (base := base) T
  have G_Painter_stride := ok_Painter_stride (P := P) (w := w) (base := base) T
  have G_Painter_post := ok_Painter_post (P := P) (w := w) (base := base) T
  have G_Painter_day := ok_Painter_day (P := P) (w := w) (base := base) T
  have G_Painter_name := ok_Painter_name (P := P) (w := w) (base := base) T
  refine okR F sc_Fence_moved (fun vs H Q E h => ?_) (fun _ _ _ _ _ _ us hl => match us, hl with | [_, _, _], _ => rfl) (fun cdv A outer s H vs Q E hr h => ⟨_, (pss_cons (ps_set (i := 3) sc_Fence_moved.nd rfl (.inl rfl) (pe_lst pa_nil))
    (pss_cons (ps_for PassesOwn.never rfl (pi_tup (pe_fld (pv 0) rfl)) (pg_name (i := 4) sc_Fence_moved.nd rfl (.inl rfl)) (pss_one (ps_expr (pe_bm PySem.F.plainAttrs_list PySem.F.slot_list_append PySem.F.type_list_append mt_append (pv 3) (pa_cons (StX.pe_makeR T.k_Painter G_Painter_init (hr.mono (by decide)) (by rfl) T.g_Painter pass0 (pa_cons (pe_propR (pv 4) T.c_Painter T.p_Painter_name G_Painter_name (hr.mono (by decide))) (pa_cons (pe_op op_add (pe_propR (pv 4) T.c_Painter T.p_Painter_day G_Painter_day (hr.mono (by decide))) (pv 2)) (pa_cons (pe_op op_add (pe_propR (pv 4) T.c_Painter T.p_Painter_post G_Painter_post (hr.mono (by decide))) (pv 1)) (pa_cons (pe_propR (pv 4) T.c_Painter T.p_Painter_stride G_Painter_stride (hr.mono (by decide))) pa_nil))))) pa_nil)))))
    (pss_one (ps_ret (pe_makeS1 T.k_Fence G_Fence_init (hr.mono (by decide)) T.g_Fence (pv 3)))))), ?_⟩)
  · obtain ⟨a, pt, pas, ps, c, b, rfl, _⟩ := h; rfl
  · obtain ⟨a, pt, pas, ps, c, b, rfl, F1, hok, q⟩ := h
    obtain ⟨dx, d, h1, h2⟩ := F1.ex
    refine ⟨by show 0 ≤ sizeLine; decide, fun l hl => ?_⟩
    have e0 : Same H (upd H l (.lst [])) := same_new hl
    refine ⟨_, rfl, a, _, dx, _, _, rfl, e0 _ _ h1, T.c_Fence, T.a_Fence_listed, rfl, pt, rfl, ⟨_, same_sqT e0 F1.w⟩, ?_⟩
    have hn : (pas.map V.ref).length = ps.length := by rw [List.length_map, Paired.length F1.pp]
    refine for_tup (xs := pas.map V.ref) (fun i σ H' => Same H H' ∧ ∃ (as : List Addr) (z : Option V), σ = [some (.ref a), some (.int c), some (.int b), some (.ref l), z] ∧ H' l = some (.lst (as.map V.ref)) ∧ Paired (PaintAt K H') as ((ps.take i).map (movP c b)))
      ⟨e0, [], _, rfl, upd_same, .nil⟩ (fun i σ H' _ ⟨e, _⟩ => same_sqT e F1.w) (fun i v σ Hc hv ⟨eS, as, z, eσ, hL, hpr⟩ => ?_) (fun σ H' ⟨eS, as, z, eσ, hL, hpr⟩ => ?_)
    · subst eσ
      rw [List.getElem?_map] at hv
      obtain ⟨pa, hpa, ev⟩ := Option.map_eq_some_iff.mp hv
      subst ev
      obtain ⟨P0, hP0, hPA0⟩ := PR.paired_get F1.pp hpa
      have hPA := hPA0.fx (Fx.same eS)
      obtain ⟨dp, tp, hp1, _, wok⟩ := id hPA
      obtain ⟨n1, n2, n3, n4, n5, n6, n7, n8⟩ := hok P0 (List.mem_of_getElem? hP0)
      refine ⟨_, rfl, .inl ⟨rfl, _, .inl (.inl hL)⟩, _, rfl, pa, dp, _, rfl, hp1, pa, P0, rfl, hPA, _, rfl, pa, dp, _, rfl, hp1, pa, P0, rfl, hPA, _, rfl, _, _, rfl, rfl, _, rfl, pa, dp, _, rfl, hp1, pa, P0, rfl, hPA, _, rfl, _, _, rfl, rfl, _, rfl, pa, dp, _, rfl, hp1, pa, P0, rfl, hPA, ?_⟩
      intro x dx' hx hdx hne
      have e1 := same_made (C := He.ga K "Painter") hx hdx hne
      refine ⟨x, dx', P0.name, P0.day + b, P0.post + c, P0.str, rfl, upd_same, n1, n2, n3, n4, n5, n6, n7, n8, fun H2 b2 hPn => ⟨rfl, ?_⟩⟩
      have e2 := but_same e1 b2 hx
      refine ⟨l, _, _, rfl, rfl, e2 _ _ hL, ?_, same_put (eS.trans e2) hl, as ++ [x], _, rfl, ?_, ?_⟩
      · have := Paired.length hpr
        rw [List.length_map, List.length_take] at this
        rw [List.length_map]
        exact Nat.lt_of_le_of_lt (by omega : as.length ≤ ps.length) (Nat.lt_of_le_of_lt F1.n8 (by decide))
      · rw [upd_same, List.map_append]; rfl
      · have e5 := (Fx.refl _).upd (o := .lst (as.map V.ref ++ [V.ref x])) (e2 _ _ hL) lst_nf
        rw [take_snoc hP0, List.map_append]
        exact pr_snoc (paints_fx ((Fx.same e2).trans e5) hpr) (hPn.fx e5)
    · subst eσ
      rw [hn, List.take_length] at hpr
      refine ⟨_, rfl, l, _, rfl, .inr (.inl (.inl hL)), fun x dx' hx hdx hne => ?_⟩
      have e1 := same_made (C := He.ga K "Fence") hx hdx hne
      refine ⟨x, dx', as, ps.map (movP c b), rfl, upd_same, paints_fx (Fx.same e1) hpr, ?_, by rw [List.length_map]; exact F1.n8, fun H' pt' b g => ⟨rfl, q x pt' as H' (eS.trans (but_same e1 b hx)) g⟩⟩
      rw [List.map_map]
      exact F1.nd
end PP
end
section
set_option maxHeartbeats 4000000
namespace PP
open PySem PySem.Spec PyProof.Rows L2 PR
variable {P : Program} {w : World} {K : PySem.W.Frag} {mg : Str → Option Value} {base : Heap}

open LamX NdefX
/-! ### need_count, post_after -/
def spNeedF : Sp := fun vs H Q _ => ∃ n L : Int, vs = [.int n, .int L] ∧ 0 ≤ n ∧ n ≤ L ∧ Q .non H
theorem sc_need_count : FnScope ["value", "limit"] ["value", "limit"] (defScope s_need_count) := ⟨rfl, rfl, rfl, by decide +kernel, rfl, by decide +kernel, by decide +kernel⟩
theorem ok_need_count (T : Txt K mg) : Fn P w K mg base 3 (He.ga K "need_count") spNeedCount := by
  obtain ⟨fd, F⟩ := T.d_need_count
  have G_is_between := ok_is_between (P := P) (w := w) (base := base) T
  have G_is_between := ok_is_between (P := P) (w := w) (base := base) T
  obtain ⟨ds, rv, b⟩ := F.binds1 (ps := ["value", "limit"]) 1 0 (List.cons_ne_nil _ _) rfl (fun _ _ _ _ _ _ _ us its h1 h2 => match us, its, h1, h2 with | [_], [_], _, _ => ⟨_, rfl, rfl⟩)
  have O : FnOk P w K mg base CX0 3 (He.ga K "need_count") fd ["value", "limit"] spNeedF := F.ok sc_need_count (fun vs H Q E h => ?_) (fun cdv A outer s H vs Q E hr h => ⟨_, PSs.nox (pss_one (ps_if (pt_not (pt_val (pe_callR G_is_between (hr.mono (by decide)) T.g_is_between (T.d_is_between.elim fun _ F => F.kp) (pa_cons (pv 0) (pa_cons pe_int (pa_cons (pv 1) pa_nil)))))) (pss_one ps_never) pss_nil)), ?_⟩)
  · refine (O.raw b rv).imp fun vs H Q E h => ?_
    obtain ⟨n, rfl, h0, h1, q⟩ := h
    exact ⟨n, 10 ^ 80, rfl, h0, h1, q⟩
  · obtain ⟨n, L, rfl, _⟩ := h; rfl
  · obtain ⟨n, L, rfl, h0, h1, q⟩ := h
    have c1 : decide (0 ≤ n ∧ n ≤ L) = true := decide_eq_true ⟨h0, h1⟩
    exact ⟨_, rfl, _, rfl, n, 0, L, rfl, _, congrArg V.bl c1, q⟩
def spPA (K : PySem.W.Frag) : Sp := fun vs H Q _ => ∃ (a : Addr) (p : PT) (c : Int), vs = [.ref a, .int c] ∧ PaintAt K H a p ∧ 0 ≤ c ∧ c ≤ 1000 ∧ Q (.int (p.post + c * p.str)) H
theorem sc_Painter_post_after : FnScope ["self", "count"] ["self", "count"] (defScope s_Painter_post_after) := ⟨rfl, rfl, rfl, by decide +kernel, rfl, by decide +kernel, by decide +kernel⟩
theorem ok_Painter_post_after (T : Txt K mg) : Fn P w K mg base 4 (He.ma K (He.ga K "Painter") "post_after") (spPA K) := by
  obtain ⟨fd, F⟩ := T.d_Painter_post_after
  have G_Painter_post := ok_Painter_post (P := P) (w := w) (base := base) T
  have G_Painter_stride := ok_Painter_stride (P := P) (w := w) (base := base) T
  have G_need_count := ok_need_count (P := P) (w := w) (base := base) T
  refine okR F sc_Painter_post_after (fun vs H Q E h => ?_) (fun _ _ _ _ _ _ us hl => match us, hl with | [_, _], _ => rfl) (fun cdv A outer s H vs Q E hr h => ⟨_, (pss_cons (ps_expr (pe_callR G_need_count (hr.mono (by decide)) T.g_need_count (T.d_need_count.elim fun _ F => F.kp) (pa_cons (pv 1) pa_nil)))
    (pss_one (ps_ret (pe_op op_add (pe_propR (pv 0) T.c_Painter T.p_Painter_post G_Painter_post (hr.mono (by decide))) (pe_op op_mulW (pv 1) (pe_propR (pv 0) T.c_Painter T.p_Painter_stride G_Painter_stride (hr.mono (by decide)))))))), ?_⟩)
  · obtain ⟨a, p, c, rfl, _⟩ := h; rfl
  · obtain ⟨a, p, c, rfl, hP, c0, c1, q⟩ := h
    obtain ⟨dx, t, h1, _, wok⟩ := id hP
    have zc : Sz 100 c := Sz.of (Int.lt_of_lt_of_le (by decide) c0) (Int.lt_of_le_of_lt c1 (by decide))
    exact ⟨_, rfl, c, rfl, c0, Int.le_trans c1 (by decide), _, rfl, a, dx, _, rfl, h1, a, p, rfl, hP, _, rfl, _, rfl, a, dx, _, rfl, h1, a, p, rfl, hP, _, _, rfl, rfl, zc.mul wok.zs (by decide), _, _, rfl, rfl, q⟩
/-! ### stops told by name -/
def nameOf (ps : List PT) (i : Nat) : Str := match ps[i]? with
  | some p => p.name
  | none => Str.empty
def haltOf (stops : List PM.Stop) (p : Nat) : Option PM.Stop := stops.find? fun x => decide (x.2.1 = p)
def limOf (stops : List PM.Stop) (p : Nat) : Option Int := (haltOf stops p).map (·.2.2.1)
def postAt (ps : List PT) (x : PM.Stop) : Int := postOf ps x.2.1 + x.2.2.1 * strOf ps x.2.1
theorem haltOf_snoc {l : List PM.Stop} {x : PM.Stop} {p : Nat} (h : ∀ y ∈ l, y.2.1 ≠ x.2.1) : haltOf (l ++ [x]) p = if p = x.2.1 then some x else haltOf l p := by
  unfold haltOf
  rw [List.find?_append]
  by_cases e : p = x.2.1
  · have h1 : l.find? (fun y => decide (y.2.1 = p)) = none := List.find?_eq_none.mpr fun y hy => by simp [e, h y hy]
    rw [h1, if_pos e]
    simp [e]
  · have h2 : [x].find? (fun y => decide (y.2.1 = p)) = none := List.find?_eq_none.mpr fun y hy => by rw [List.mem_singleton.mp hy]; simp; exact fun z => e z.symm
    rw [if_neg e, h2]
    simp
theorem name_inj {ps : List PT} (hnd : (ps.map (·.name)).Nodup) {p q : Nat} (hp : p < ps.length) (hq : q < ps.length) (h : nameOf ps p = nameOf ps q) : p = q := by
  have e : ∀ i, i < ps.length → (ps.map (·.name))[i]? = some (nameOf ps i) := fun i hi => by
    unfold nameOf
    rw [List.getElem?_map, List.getElem?_eq_getElem hi]
    rfl
  exact nodup_get hnd (e p hp) (by rw [h]; exact e q hq)
theorem name_at {ps : List PT} {i : Nat} {p : PT} (h : ps[i]? = some p) : nameOf ps i = p.name := by
  unfold nameOf; rw [h]
/-- the halts' dict -/
def haK (ps : List PT) (l : List PM.Stop) (ts : List Addr) : List (Key × V) := (l.zip ts).map fun e => (.inr (nameOf ps e.1.2.1), .ref e.2)
theorem haK_snoc {ps : List PT} {l : List PM.Stop} {ts : List Addr} {x : PM.Stop} {t : Addr} (h : ts.length = l.length) : haK ps (l ++ [x]) (ts ++ [t]) = haK ps l ts ++ [(.inr (nameOf ps x.2.1), .ref t)] := by
  unfold haK
  rw [List.zip_append h.symm, List.map_append]
  rfl
theorem haK_none {ps : List PT} {l : List PM.Stop} {ts : List Addr} {z : Str} (h : ∀ x ∈ l, nameOf ps x.2.1 ≠ z) : valV (haK ps l ts) (.inr z) = none := by
  cases q : valV (haK ps l ts) (.inr z) with
  | none => rfl
  | some v =>
    have h1 := valV_any (.inr z : Key) (haK ps l ts)
    rw [q] at h1
    obtain ⟨e, he, h2⟩ := List.any_eq_true.mp h1
    obtain ⟨e0, h3, rfl⟩ := List.mem_map.mp he
    exact absurd (Sum.inr.inj (of_decide_eq_true h2)) (h e0.1 (List.of_mem_zip h3).1)
/-- the painter's limit by name -/
def LimsIs (ps : List PT) (l : List PM.Stop) (kv : List (Key × V)) : Prop := kv.length ≤ 100 ∧ ∀ i, i < ps.length → valV kv (.inr (nameOf ps i)) = some (oV (limOf l i))
/-- all but the tables and the mutable things at l and h -/
theorem run_cnt {n : Nat} {day : Nat → Int} {fb : Nat → Nat → Option Int → Option Int} {own : Nat → Option Int} {R : Nat → Int → Prop} (hR : ∀ lim p q k, p < n → PM.Bl n fb own lim p q = some k → R p k) : ∀ {lim : PM.Lims} {l : List PM.Stop}, PM.Run n day fb own lim l → ∀ x ∈ l, R x.2.1 x.2.2.1
  | _, _, .done _, x, hx => by cases hx
  | lim, _, .step (x := y) h r, x, hx => by
    rcases List.mem_cons.mp hx with rfl | hx
    · exact hR lim _ _ _ h.1 h.2.2.2.1
    · exact run_cnt hR r x hx
def haltV (ps : List PT) (post : PM.Stop → Int) (x : PM.Stop) : List V := [.int x.1, .int (post x), .str (nameOf ps x.2.2.2)]
end PP
end
section
set_option maxHeartbeats 4000000
namespace PP
open PySem PySem.Spec PyProof.Rows L2 PR
variable {P : Program} {w : World} {K : PySem.W.Frag} {mg : Str → Option Value} {base : Heap}

open LamX NdefX
/-! ### History.__init__ -/
def hsF (fa l h : Addr) : Fl := [("painted", .ref fa), ("limits", .ref l), ("halts", .ref h)]
structure HistAt (K : PySem.W.Frag) (H : Hp) (a : Addr) (ps : List PT) (stops : List PM.Stop) : Prop where
  ex : ∃ dx fa pt pas l h kvl ts, H a = some (.ins (He.ga K "History") dx (hsF fa l h)) ∧ FenceAt K H fa pt pas ps ∧ H l = some (.dK kvl) ∧ H h = some (.dK (haK ps stops ts)) ∧ LimsIs ps stops kvl ∧ Paired (fun t x => SqT K H t (haltV ps (postAt ps) x)) ts stops
  sl : stops.length ≤ 8
theorem HistAt.ex' {H H' : Hp} {a : Addr} {ps : List PT} {stops : List PM.Stop} (e : Ex H H') (h : HistAt K H a ps stops) : HistAt K H' a ps stops := by
  obtain ⟨⟨dx, fa, pt, pas, l, h, kvl, ts, h1, h2, h3, h4, h5, h6⟩, h7⟩ := h
  have up : ∀ {c o}, H c = some o → NTb o → H' c = some o := fun {c o} q n => e c o q n id
  exact ⟨⟨dx, fa, pt, pas, l, h, kvl, ts, up h1 (by intro ps z; cases z), h2.ex' e, up h3 (by intro ps z; cases z), up h4 (by intro ps z; cases z), h5, pr_imp h6 fun t x q => e.fx.sqT q⟩, h7⟩
theorem FenceAt.off {H H' : Hp} {a pt x C dx : Addr} {pas : List Addr} {ps : List PT} (h : FenceAt K H a pt pas ps) (e : Off (fun c => c = x) H H') (hx : H x = some (.ins C dx [])) : FenceAt K H' a pt pas ps := by
  obtain ⟨⟨d1, d, h1, h2⟩, h3, h4, h5, h6⟩ := h
  have ne : ∀ {c C' d' fs}, H c = some (.ins C' d' fs) → fs ≠ [] → c ≠ x := fun {c C' d' fs} q n z => by
    rw [z, hx] at q
    have q2 := Option.some.inj q
    injection q2 with _ _ q3
    exact n q3.symm
  have sq : ∀ {b : Addr} {xs : List V}, SqT K H b xs → SqT K H' b xs := fun {b xs} q => by
    rcases q with (q | ⟨u, q⟩) | q
    · exact .inl (.inl (e _ _ q (by intro ps z; cases z) (ne_of q hx (by intro z; cases z))))
    · exact .inl (.inr ⟨u, e _ _ q (by intro ps z; cases z) (ne_of q hx (by intro z; cases z))⟩)
    · exact .inr q
  refine ⟨⟨d1, d, e _ _ h1 (by intro ps z; cases z) (ne h1 (by intro z; cases z)), e _ _ h2 (by intro ps z; cases z) (ne_of h2 hx (by intro z; cases z))⟩, sq h3, ?_, h5, h6⟩
  exact pr_imp h4 fun pa P0 ⟨dp, tp, g1, g2, g3⟩ => ⟨dp, tp, e _ _ g1 (by intro ps z; cases z) (ne g1 (by intro z; cases z)), sq g2, g3⟩
theorem ix_ref {l : List Addr} {i : Nat} {a : Addr} (h : l[i]? = some a) : (l.map V.ref)[i]? = some (.ref a) := by rw [List.getElem?_map, h]; rfl
theorem paired_at {α β : Type} {R : α → β → Prop} {xs : List α} {ys : List β} (h : Paired R xs ys) {i : Nat} (hi : i < ys.length) : ∃ x y, xs[i]? = some x ∧ ys[i]? = some y ∧ R x y := by
  have hl : i < xs.length := by rw [Paired.length h]; exact hi
  obtain ⟨y, h1, h2⟩ := PR.paired_get h (List.getElem?_eq_getElem hl)
  exact ⟨_, y, List.getElem?_eq_getElem hl, h1, h2⟩
def spHistI (K : PySem.W.Frag) (T0 : List NTab) : Sp := fun vs H Q _ => ∃ (x dx fa pt : Addr) (pas : List Addr) (ps : List PT) (N f : Int), vs = [.ref x, .ref fa] ∧ H x = some (.ins (He.ga K "History") dx []) ∧ FenceAt K H fa pt pas ps ∧ PM.Fenced ps.length N f (dayOf ps) (postOf ps) (strOf ps) ∧ TabsN T0 H ∧
  ∀ H' stops, Off (fun c => c = x) H H' → TabsN T0 H' → HistAt K H' x ps stops → PM.Run ps.length (dayOf ps) (PM.fbF (dayOf ps) (postOf ps) (strOf ps)) (fun _ => none) (fun _ => none) stops → Q .non H'
theorem sc_History_init : FnScope ["self", "fence", "name", "stops", "day", "place", "count", "blocker", "painter"] ["self", "fence"] (defScope s_History_init) := ⟨rfl, rfl, rfl, by decide +kernel, rfl, by decide +kernel, by decide +kernel⟩
theorem ok_History_init {T0 : List NTab} (T : Txt K mg) : Fn P w K mg base 12 (He.ma K (He.ga K "History") "__init__") (spHistI K T0) := by
  obtain ⟨fd, F⟩ := T.d_History_init
  have G_Fence_names := ok_Fence_names (P := P) (w := w) (base := base) T
  have G_Fence_painters := ok_Fence_painters (P := P) (w := w) (base := base) T
  have G_Painter_name := ok_Painter_name (P := P) (w := w) (base := base) T
  have G_Painter_post_after := ok_Painter_post_after (P := P) (w := w) (base := base) T
  refine okR F sc_History_init (fun vs H Q E h => ?_) (fun _ _ _ _ _ _ us hl => match us, hl with | [_, _], _ => rfl) (fun cdv A outer s H vs Q E hr h => ?_)
  · obtain ⟨x, dx, fa, pt, pas, ps, N, f, rfl, _⟩ := h; rfl
  · obtain ⟨x, dx, fa, pt, pas, ps, N, f, rfl, hx, F1, hFe, tb, hk⟩ := h
    have O := ok_fKd (P := P) (w := w) (base := base) (T0 := T0) T hFe
    have G_Blocks_init := ok_Blocks_init T O
    have G_Blocks_all_stops := ok_all_stops (own := fun _ => none) T O
    refine ⟨_, (pss_cons (ps_fld (pv 0) (pv 1) rfl)
    (pss_cons (ps_fld (pv 0) (pe_dc (own := [("name", 2)]) rfl sc_History_init.nd (pi_tup (pe_propR (pv 1) T.c_Fence T.p_Fence_names G_Fence_names (hr.mono (by decide)))) (blkOk_by (own := [("name", 2)]) (N := ["self", "fence", "name", "stops", "day", "place", "count", "blocker", "painter"]) (sc := defScope s_History_init) (by decide +kernel)) (fun _ _ _ _ _ => (pg_name (i := 2) sc_History_init.nd rfl (.inl rfl) (hf := .inr rfl))) (fun _ _ _ _ _ => pts_nil) (fun _ _ _ _ _ => (pv 2)) (fun _ _ _ _ _ => pe_non)) rfl)
    (pss_cons (ps_fld (pv 0) pe_dnewK rfl)
    (pss_cons (ps_set (i := 3) sc_History_init.nd rfl (.inl rfl) (pe_methR0 (StX.pe_makeR T.k_Blocks G_Blocks_init (hr.mono (by decide)) (by rfl) T.g_Blocks pass0 (pa_cons (pe_propR (pv 1) T.c_Fence T.p_Fence_painters G_Fence_painters (hr.mono (by decide))) pa_nil)) T.c_Blocks T.m_Blocks_all_stops G_Blocks_all_stops (hr.mono (by decide))))
    (pss_one (ps_for PassesOwn.never rfl (pi_list (pv 3)) (pg_tup rfl (pgs_cons (pg_name (i := 4) sc_History_init.nd rfl (.inl rfl)) (pgs_cons (pg_name (i := 5) sc_History_init.nd rfl (.inl rfl)) (pgs_cons (pg_name (i := 6) sc_History_init.nd rfl (.inl rfl)) (pgs_cons (pg_name (i := 7) sc_History_init.nd rfl (.inl rfl)) pgs_nil))))) (pss_cons (ps_set (i := 8) sc_History_init.nd rfl (.inl rfl) (pe_ix ix_tup (pe_propR (pv 1) T.c_Fence T.p_Fence_painters G_Fence_painters (hr.mono (by decide))) (pv 5) (fun _ _ => rfl)))
    (pss_cons (ps_dput (hu_of hr) (pe_fld (pv 0) rfl) (pe_propR (pv 8) T.c_Painter T.p_Painter_name G_Painter_name (hr.mono (by decide))) (pv 6) rfl)
    (pss_one (ps_dput (hu_of hr) (pe_fld (pv 0) rfl) (pe_propR (pv 8) T.c_Painter T.p_Painter_name G_Painter_name (hr.mono (by decide))) (pe_tup (pa_cons (pv 4) (pa_cons (pe_methR (pv 8) T.c_Painter T.m_Painter_post_after G_Painter_post_after (hr.mono (by decide)) pass0 (pa_cons (pv 6) pa_nil)) (pa_cons (pe_propR (pe_ix ix_tup (pe_propR (pv 1) T.c_Fence T.p_Fence_painters G_Fence_painters (hr.mono (by decide))) (pv 7) (fun _ _ => rfl)) T.c_Painter T.p_Painter_name G_Painter_name (hr.mono (by decide))) pa_nil)))) rfl)))))))))), ?_⟩
    have fen : ∀ {H'}, Off (fun c => c = x) H H' → FenceAt K H' fa pt pas ps := fun {H'} o => F1.off o hx
    -- self.painted
    refine ⟨_, rfl, _, rfl, x, _, dx, _, rfl, hx, T.c_History, T.a_History_painted, (by decide : (0 : Nat) < 1000), ?_⟩
    have v1 : But x H (upd H x (.ins (He.ga K "History") dx [("painted", .ref fa)])) := (But.of (Same.refl H)).upd
    have ins_tab : ∀ {H1 : Hp} {fs fs' : Fl} {C : Addr}, TabsN T0 H1 → H1 x = some (.ins C dx fs) → TabsN T0 (upd H1 x (.ins C dx fs')) := fun {H1 fs fs' C} t e => tabs_upd t fun u eu => by
      rw [e] at eu; cases eu
      exact ⟨(by intro ps z; cases z), fun c q z => codeO_kind.1 (by rw [← z]; trivial)⟩
    have t1 : TabsN T0 (upd H x (.ins (He.ga K "History") dx [("painted", .ref fa)])) := ins_tab tb hx
    -- self.limits
    have F2 := fen v1.off
    obtain ⟨dxf, df, hf1, _⟩ := F2.ex
    refine ⟨_, rfl, fa, dxf, _, rfl, hf1, fa, pt, pas, ps, rfl, F2, fun tn H2 e2 htn => ⟨tn, rfl, ⟨_, htn⟩, fun l hl => ?_⟩⟩
    refine dc_it walk_tup (fun i H' => Same H2 H' ∧ ∃ kv, H' l = some (.dK kv) ∧ kv.length ≤ i ∧ ∀ j, j < i → valV kv (.inr (nameOf ps j)) = some V.non) ⟨same_new hl, [], upd_same, Nat.le_refl _, fun j hj => absurd hj (Nat.not_lt_zero j)⟩
      (fun i H' _ ⟨e, _⟩ => same_sqT e htn) (fun i v Hc H' hi ⟨eS, kv, hL, hkl, hkv⟩ y => ?_) (fun H3 ⟨e3, kv0, hL3, hkl0, hkv0⟩ => ?_)
    · obtain ⟨rfl, hv⟩ := y
      rw [List.getElem?_map] at hv
      obtain ⟨P0, hP0, ev⟩ := Option.map_eq_some_iff.mp hv
      subst ev
      rw [List.length_map] at hi
      refine ⟨rfl, _, rfl, kv, .inr P0.name, rfl, hL, ?_, same_put eS hl, _, upd_same, Nat.le_trans (length_putK ..) (Nat.succ_le_succ hkl), fun j hj => ?_⟩
      · exact Nat.lt_of_le_of_lt hkl (Nat.lt_of_lt_of_le hi (Nat.le_trans F1.n8 (by decide)))
      · rw [valV_put]
        by_cases e : j = i
        · rw [e, name_at hP0, if_pos rfl]
        · have : nameOf ps j ≠ P0.name := fun z => e (name_inj F1.nd (Nat.lt_of_le_of_lt (by omega) hi) hi (by rw [z, name_at hP0]))
          rw [if_neg (fun z => this (Sum.inr.inj z))]
          exact hkv j (by omega)
    rw [List.length_map] at hkl0 hkv0
    have hx3 := e3 _ _ (e2 _ _ upd_same)
    refine ⟨_, rfl, x, _, dx, _, rfl, hx3, T.c_History, T.a_History_limits, (by decide : (1 : Nat) < 1000), ?_⟩
    have v4 : But x H (upd H3 x (.ins (He.ga K "History") dx [("painted", .ref fa), ("limits", .ref l)])) := ((v1.same e2).same e3).upd
    have t4 : TabsN T0 (upd H3 x (.ins (He.ga K "History") dx [("painted", .ref fa), ("limits", .ref l)])) := ins_tab (tabs_same (tabs_same t1 e2) e3) hx3
    have hlx : l ≠ x := fun z => by rw [z] at hL3; rw [hx3] at hL3; cases hL3
    have hlH : H l = none := (v1.same e2).none hlx hl
    have hL4 : (upd H3 x (.ins (He.ga K "History") dx [("painted", .ref fa), ("limits", .ref l)])) l = some (.dK kv0) := (upd_ne hlx).trans hL3
    -- self.halts
    intro h hh
    have hh : (upd H3 x (.ins (He.ga K "History") dx [("painted", .ref fa), ("limits", .ref l)])) h = none := hh
    have hhx : h ≠ x := fun z => by rw [z, upd_same] at hh; cases hh
    have hhl : h ≠ l := fun z => by rw [z, hL4] at hh; cases hh
    have hhH : H h = none := v4.none hhx hh
    have e5 := same_new (o := .dK []) hh
    refine ⟨_, rfl, x, _, dx, _, rfl, e5 _ _ upd_same, T.c_History, T.a_History_halts, (by decide : (2 : Nat) < 1000), ?_⟩
    have v6 : But x H (upd (upd (upd H3 x (.ins (He.ga K "History") dx [("painted", .ref fa), ("limits", .ref l)])) h (.dK [])) x (.ins (He.ga K "History") dx (hsF fa l h))) := (v4.same e5).upd
    have t6 : TabsN T0 (upd (upd (upd H3 x (.ins (He.ga K "History") dx [("painted", .ref fa), ("limits", .ref l)])) h (.dK [])) x (.ins (He.ga K "History") dx (hsF fa l h))) := ins_tab (tabs_same t4 e5) (e5 _ _ upd_same)
    have hx6 : (upd (upd (upd H3 x (.ins (He.ga K "History") dx [("painted", .ref fa), ("limits", .ref l)])) h (.dK [])) x (.ins (He.ga K "History") dx (hsF fa l h))) x = some (.ins (He.ga K "History") dx (hsF fa l h)) := upd_same
    have hL6 : (upd (upd (upd H3 x (.ins (He.ga K "History") dx [("painted", .ref fa), ("limits", .ref l)])) h (.dK [])) x (.ins (He.ga K "History") dx (hsF fa l h))) l = some (.dK kv0) := (upd_ne hlx).trans (e5 _ _ hL4)
    have hH6 : (upd (upd (upd H3 x (.ins (He.ga K "History") dx [("painted", .ref fa), ("limits", .ref l)])) h (.dK [])) x (.ins (He.ga K "History") dx (hsF fa l h))) h = some (.dK []) := (upd_ne hhx).trans upd_same
    have F6 := fen v6.off
    obtain ⟨dxf6, df6, hf6, _⟩ := F6.ex
    -- stops
    refine ⟨_, rfl, fa, dxf6, _, rfl, hf6, fa, pt, pas, ps, rfl, F6, fun b dxb hb hdb hne => ?_⟩
    have eM := same_made (C := He.ga K "Blocks") hb hdb hne
    refine ⟨b, dxb, pt, pas, rfl, upd_same, same_sqT eM F6.w, paints_fx (Fx.same eM) F6.pp, F6.n8, tabs_same t6 eM, fun H7 st sb o7 t7 new B7 => ⟨rfl, ?_⟩⟩
    have hb7 := B7.b
    rw [sb] at hb7
    refine ⟨b, _, _, rfl, hb7, bk_lk.2.2.2.2.2.2.2.2.2, st, _, _, _, _, by rw [sb], B7, t7, fun p q hp hq hpq => ⟨.inl hp, hpq, hp, hq⟩, fun p hp _ q => ?_, fun H8 sl as stops o8 t8 hsl hL8 hpr hrun => ?_⟩
    · show (if Dij ps.length ps.length 0 p q then (fKd K ps).fb p q none else none) = PM.Bl ps.length (fKd K ps).fb (fun _ => none) (fun _ => none) p q
      unfold PM.Bl
      by_cases e : q = p
      · rw [if_pos e, if_neg (fun z => z.2.1 e.symm)]
      · rw [if_neg e]
        by_cases hq : q < ps.length
        · rw [if_pos hq, if_pos ⟨.inl hp, fun z => e z.symm, hp, hq⟩]
        · rw [if_neg hq, if_neg (fun z => hq z.2.2.2)]
    have x68 : ∀ {c o}, (upd (upd (upd H3 x (.ins (He.ga K "History") dx [("painted", .ref fa), ("limits", .ref l)])) h (.dK [])) x (.ins (He.ga K "History") dx (hsF fa l h))) c = some o → NTb o → H8 c = some o := fun {c o} q n => by
      have q2 := eM _ _ q
      exact o8 c o (o7 c o q2 n (ne_of_none q hb)) n fun z => by rw [new c z] at q2; cases q2
    have o8H : Off (fun c => c = x) H H8 := v6.off.trans (fun c o q n _ => x68 q n)
    have hx8 := x68 hx6 (by intro ps z; cases z)
    have hLl8 := x68 hL6 (by intro ps z; cases z)
    have hHh8 := x68 hH6 (by intro ps z; cases z)
    have hlen : stops.length ≤ 8 := by
      have h1 := nodup_le ps.length (stops.map (·.2.1)) hrun.nodup fun i hi => by
        obtain ⟨y, hy, rfl⟩ := List.mem_map.mp hi
        exact (hrun.free y hy).2.1
      rw [List.length_map] at h1
      exact Nat.le_trans h1 F1.n8
    have hcnt : ∀ y ∈ stops, 0 ≤ y.2.2.1 ∧ y.2.2.1 < 80 := run_cnt (R := fun _ c => 0 ≤ c ∧ c < 80) (fun lim p q k hp hb => by
      have hq := PM.Bl_lt hp hb
      unfold PM.Bl at hb
      by_cases e : q = p
      · rw [if_pos e] at hb; cases hb
      · rw [if_neg e, if_pos hq] at hb
        exact PM.fence_early hFe hp hq hb) hrun
    -- the loop
    refine ⟨_, rfl, sl, rfl, ⟨_, .inl (.inl hL8)⟩, ?_⟩
    have hxs : sl ≠ x := fun z => by rw [z] at hL8; rw [hx8] at hL8; cases hL8
    refine for_list (xs := as.map V.ref) (fun i σ H' => Off (fun c => c = x) H H' ∧ TabsN T0 H' ∧ H' x = some (.ins (He.ga K "History") dx (hsF fa l h)) ∧ H' sl = some (.lst (as.map V.ref)) ∧ Paired (fun a y => SqT K H' a (stopV y)) as stops ∧
        (∃ kvl ts, H' l = some (.dK kvl) ∧ H' h = some (.dK (haK ps (stops.take i) ts)) ∧ kvl.length ≤ 8 + i ∧ (∀ j, j < ps.length → valV kvl (.inr (nameOf ps j)) = some (oV (limOf (stops.take i) j))) ∧ Paired (fun t y => SqT K H' t (haltV ps (postAt ps) y)) ts (stops.take i)) ∧
        ∃ z1 z2 z3 z4 z5 z6, σ = [some (.ref x), some (.ref fa), z1, some (.ref sl), z2, z3, z4, z5, z6])
      ⟨o8H, t8, hx8, hL8, hpr, ⟨kv0, [], hLl8, hHh8, Nat.le_trans hkl0 (Nat.le_trans F1.n8 (Nat.le_add_right _ _)), fun j hj => (hkv0 j hj).trans rfl, .nil⟩, _, _, _, _, _, _, rfl⟩ (fun i σ H' _ ⟨_, _, _, e, _⟩ => .inl (.inl e))
      (fun i v σ Hc hv ⟨oC, tC, hxC, hsC, hprC, ⟨kvl, ts, hlC, hhC, hkl, hkv, hts⟩, z1, z2, z3, z4, z5, z6, eσ⟩ => ?_) (fun σ H' ⟨oC, tC, hxC, hsC, hprC, ⟨kvl, ts, hlC, hhC, hkl, hkv, hts⟩, z1, z2, z3, z4, z5, z6, eσ⟩ => ?_)
    · subst eσ
      rw [List.getElem?_map] at hv
      obtain ⟨a0, ha0, ev⟩ := Option.map_eq_some_iff.mp hv
      subst ev
      obtain ⟨y, hy, hsy⟩ := PR.paired_get hprC ha0
      have hym := List.mem_of_getElem? hy
      obtain ⟨_, yp, yb, _⟩ := hrun.free y hym
      obtain ⟨c0, c1⟩ := hcnt y hym
      have FC := fen oC
      obtain ⟨dxfC, dfC, hfC, _⟩ := FC.ex
      obtain ⟨pa, P0, hpa, hP0, hPA⟩ := paired_at FC.pp yp
      obtain ⟨dp, tp, hp1, _⟩ := id hPA
      have nmP := name_at hP0
      refine ⟨a0, _, rfl, hsy, rfl, _, _, rfl, _, _, rfl, _, _, rfl, _, _, rfl, rfl, ?_⟩
      refine ⟨_, rfl, fa, dxfC, _, rfl, hfC, fa, pt, pas, ps, rfl, FC, _, rfl, pt, _, _, _, rfl, rfl, FC.w, atI_nat (ix_ref hpa), ?_⟩
      have hlen1 : kvl.length < sizeLine := by
        have := (List.getElem?_eq_some_iff.mp hy).1
        exact Nat.lt_of_lt_of_le (by omega : kvl.length < 100) (by decide)
      refine ⟨_, rfl, _, rfl, x, _, dx, _, _, rfl, hxC, T.c_History, T.a_History_limits, rfl, _, rfl, pa, dp, _, rfl, hp1, pa, P0, rfl, hPA, l, _, rfl, DPut.k (k := .inr P0.name) hlC hlen1, ?_⟩
      -- behind the limit's store
      have oD : Off (fun c => c = x) H (upd Hc l (.dK (putK kvl (.inr P0.name) (.int y.2.2.1)))) := oC.new hlH
      have FD1 := fen oD
      obtain ⟨dxfD, dfD, hfD, _⟩ := FD1.ex
      obtain ⟨pa', P0', hpa', hP0', hPAD⟩ := paired_at FD1.pp yp
      rw [hpa] at hpa'; cases hpa'
      rw [hP0] at hP0'; cases hP0'
      obtain ⟨dpD, tpD, hpD, _⟩ := id hPAD
      obtain ⟨qa, Q0, hqa, hQ0, hQA⟩ := paired_at FD1.pp yb
      obtain ⟨dq, tq, hq1, _⟩ := id hQA
      have hxD : (upd Hc l (.dK (putK kvl (.inr P0.name) (.int y.2.2.1)))) x = some (.ins (He.ga K "History") dx (hsF fa l h)) := (upd_ne hlx.symm).trans hxC
      have hhD : (upd Hc l (.dK (putK kvl (.inr P0.name) (.int y.2.2.1)))) h = some (.dK (haK ps (stops.take i) ts)) := (upd_ne hhl).trans hhC
      refine ⟨_, rfl, _, rfl, pa, dpD, _, rfl, hpD, rfl, _, rfl, pa, P0, y.2.2.1, rfl, hPAD, c0, by omega, _, rfl, fa, dxfD, _, rfl, hfD, fa, pt, pas, ps, rfl, FD1, _, rfl, pt, _, _, _, rfl, rfl, FD1.w, atI_nat (ix_ref hqa), qa, dq, _, rfl, hq1, qa, Q0, rfl, hQA, by show 3 ≤ sizeLine; decide, fun t ht => ?_⟩
      have eT := same_new (o := .tup [.int y.1, .int (P0.post + y.2.2.1 * P0.str), .str Q0.name]) ht
      have hPT := hPAD.fx (Fx.same eT)
      obtain ⟨dpT, tpT, hpT, _⟩ := id hPT
      have hts2 : ts.length = (stops.take i).length := Paired.length hts
      have hnone : valV (haK ps (stops.take i) ts) (.inr P0.name) = none := haK_none fun u hu z => by
        obtain ⟨j, hj⟩ := List.mem_iff_getElem?.mp hu
        have hji : j < i := by
          have := (List.getElem?_eq_some_iff.mp hj).1
          rw [List.length_take] at this
          omega
        rw [List.getElem?_take_of_lt hji] at hj
        rw [← nmP] at z
        have e1 := name_inj F1.nd (hrun.free u (List.mem_of_getElem? hj)).2.1 yp z
        have f1 : (stops.map (·.2.1))[j]? = some y.2.1 := by rw [List.getElem?_map, hj, ← e1]; rfl
        have f2 : (stops.map (·.2.1))[i]? = some y.2.1 := by rw [List.getElem?_map, hy]; rfl
        have := nodup_get hrun.nodup f1 f2
        omega
      have hlen2 : (haK ps (stops.take i) ts).length < sizeLine := by
        unfold haK
        rw [List.length_map, List.length_zip, List.length_take]
        exact Nat.lt_of_lt_of_le (by omega : min (min i stops.length) ts.length < 100) (by decide)
      refine ⟨_, rfl, x, _, dx, _, _, rfl, eT _ _ hxD, T.c_History, T.a_History_halts, rfl, _, rfl, pa, dpT, _, rfl, hpT, pa, P0, rfl, hPT, h, _, rfl, DPut.k (k := .inr P0.name) (eT _ _ hhD) hlen2, ?_⟩
      have fz : Fx Hc (upd (upd (upd Hc l (.dK (putK kvl (.inr P0.name) (.int y.2.2.1)))) t (.tup [.int y.1, .int (P0.post + y.2.2.1 * P0.str), .str Q0.name])) h (.dK (putK (haK ps (stops.take i) ts) (.inr P0.name) (.ref t)))) :=
        (((Fx.refl Hc).upd hlC id).trans (Fx.same eT)).trans ((Fx.refl _).upd (eT _ _ hhD) id)
      have hth : t ≠ h := fun z => by rw [z, hhD] at ht; cases ht
      have hlt : l ≠ t := fun z => by rw [← z, upd_same] at ht; cases ht
      refine ⟨(oD.trans (Off.same eT)).new hhH, tabs_dK (tabs_same (tabs_dK tC hlC) eT) (eT _ _ hhD), (upd_ne hhx.symm).trans (eT _ _ hxD), ?_, pr_imp hprC fun a u q => fz.sqT q, ⟨_, ts ++ [t], (upd_ne (fun z => hhl z.symm)).trans ((upd_ne hlt).trans upd_same), ?_, ?_, fun j hj => ?_, ?_⟩, _, _, _, _, _, _, rfl⟩
      · refine (upd_ne (ne_of hsC hhC (by intro z; cases z))).trans (eT _ _ ((upd_ne (ne_of hsC hlC (by intro z; cases z))).trans hsC))
      · rw [upd_same, putK_new _ hnone, take_snoc hy, haK_snoc hts2, nmP]
      · exact Nat.le_trans (length_putK ..) (by omega)
      · rw [valV_put, take_snoc hy]
        have e1 : limOf (stops.take i ++ [y]) j = if j = y.2.1 then some y.2.2.1 else limOf (stops.take i) j := by
          unfold limOf
          rw [haltOf_snoc fun u hu z => ?_]
          · by_cases e : j = y.2.1
            · rw [if_pos e, if_pos e]; rfl
            · rw [if_neg e, if_neg e]
          · obtain ⟨j2, hj2⟩ := List.mem_iff_getElem?.mp hu
            have hji : j2 < i := by
              have := (List.getElem?_eq_some_iff.mp hj2).1
              rw [List.length_take] at this
              omega
            rw [List.getElem?_take_of_lt hji] at hj2
            have f1 : (stops.map (·.2.1))[j2]? = some y.2.1 := by rw [List.getElem?_map, hj2, ← z]; rfl
            have f2 : (stops.map (·.2.1))[i]? = some y.2.1 := by rw [List.getElem?_map, hy]; rfl
            have := nodup_get hrun.nodup f1 f2
            omega
        rw [e1]
        by_cases e : j = y.2.1
        · rw [if_pos e, if_pos (by rw [e, nmP])]; rfl
        · have : nameOf ps j ≠ P0.name := fun z => e (name_inj F1.nd hj yp (by rw [z, nmP]))
          rw [if_neg e, if_neg (fun z => this (Sum.inr.inj z))]
          exact hkv j hj
      · rw [take_snoc hy]
        refine pr_snoc (pr_imp hts fun a u q => fz.sqT q) (SqT.of ((upd_ne hth).trans ?_))
        have e1 : haltV ps (postAt ps) y = [.int y.1, .int (P0.post + y.2.2.1 * P0.str), .str Q0.name] := by
          obtain ⟨a1, a2, a3⟩ := of_at hP0
          unfold haltV postAt
          rw [a2, a3, name_at hQ0]
        rw [e1]
        exact upd_same
    · have hn8 : (as.map V.ref).length = stops.length := by rw [List.length_map, Paired.length hpr]
      rw [hn8, List.take_length] at hhC hkv hts
      rw [hn8] at hkl
      exact hk H' stops oC tC ⟨⟨dx, fa, pt, pas, l, h, kvl, ts, hxC, fen oC, hlC, hhC, ⟨by omega, hkv⟩, hts⟩, hlen⟩ hrun
end PP
end
section
set_option maxHeartbeats 4000000
namespace PP
open PySem PySem.Spec PyProof.Rows L2 PR
variable {P : Program} {w : World} {K : PySem.W.Frag} {mg : Str → Option Value} {base : Heap}

open LamX NdefX
/-! ### History: rows, last_day -/
def HaltIs (K : PySem.W.Frag) (H : Hp) (ps : List PT) (post : PM.Stop → Int) (o : Option PM.Stop) (v : V) : Prop := match o with
  | none => v = .non
  | some x => ∃ t, v = .ref t ∧ SqT K H t (haltV ps post x)
theorem haltOf_cons {x : PM.Stop} {l : List PM.Stop} {i : Nat} : haltOf (x :: l) i = if x.2.1 = i then some x else haltOf l i := by
  unfold haltOf
  rw [List.find?_cons]
  by_cases e : x.2.1 = i
  · rw [if_pos e]; simp [e]
  · rw [if_neg e]; simp [e]
theorem haK_get {R : Addr → PM.Stop → Prop} {ps : List PT} (hnd : (ps.map (·.name)).Nodup) {i : Nat} (hi : i < ps.length) : ∀ {ts : List Addr} {l : List PM.Stop}, Paired R ts l → (∀ x ∈ l, x.2.1 < ps.length) →
    match haltOf l i with
    | none => valV (haK ps l ts) (.inr (nameOf ps i)) = none
    | some x => ∃ t, valV (haK ps l ts) (.inr (nameOf ps i)) = some (.ref t) ∧ R t x
  | _, _, .nil, _ => rfl
  | t :: ts, x :: l, .cons a r, hl => by
    have ih := haK_get hnd hi r fun y hy => hl y (List.mem_cons_of_mem _ hy)
    rw [haltOf_cons]
    by_cases e : x.2.1 = i
    · rw [if_pos e]
      exact ⟨t, valV_pos (p := (Sum.inr (nameOf ps x.2.1), V.ref t)) (by rw [e]), a⟩
    · rw [if_neg e]
      have e2 : valV (haK ps (x :: l) (t :: ts)) (.inr (nameOf ps i)) = valV (haK ps l ts) (.inr (nameOf ps i)) := valV_neg (p := (Sum.inr (nameOf ps x.2.1), V.ref t)) fun z => e (name_inj hnd (hl x (List.mem_cons_self ..)) hi (Sum.inr.inj z))
      rw [e2]
      exact ih
def RowAt (K : PySem.W.Frag) (H : Hp) (ps : List PT) (post : PM.Stop → Int) (stops : List PM.Stop) (r : Addr) (i : Nat) : Prop := ∃ hv, SqT K H r [.str (nameOf ps i), oV (limOf stops i), hv] ∧ HaltIs K H ps post (haltOf stops i) hv
theorem HaltIs.fx {H H' : Hp} {ps : List PT} {post : PM.Stop → Int} {o : Option PM.Stop} {v : V} (e : Fx H H') (h : HaltIs K H ps post o v) : HaltIs K H' ps post o v := by
  cases o with
  | none => exact h
  | some x =>
    obtain ⟨t, h1, h2⟩ := h
    exact ⟨t, h1, e.sqT h2⟩
theorem RowAt.fx {H H' : Hp} {ps : List PT} {post : PM.Stop → Int} {stops : List PM.Stop} {r : Addr} {i : Nat} (e : Fx H H') (h : RowAt K H ps post stops r i) : RowAt K H' ps post stops r i := by
  obtain ⟨hv, h1, h2⟩ := h
  exact ⟨hv, e.sqT h1, h2.fx e⟩
def spHRow (K : PySem.W.Frag) : Sp := fun vs H Q _ => ∃ (a : Addr) (ps : List PT) (stops : List PM.Stop) (i : Nat), vs = [.ref a, .str (nameOf ps i)] ∧ HistAt K H a ps stops ∧ i < ps.length ∧ (∀ x ∈ stops, x.2.1 < ps.length) ∧ ∀ r H', Same H H' → RowAt K H' ps (postAt ps) stops r i → Q (.ref r) H'
theorem sc_History_row : FnScope ["self", "name"] ["self", "name"] (defScope s_History_row) := ⟨rfl, rfl, rfl, by decide +kernel, rfl, by decide +kernel, by decide +kernel⟩
theorem ok_History_row (T : Txt K mg) : Fn P w K mg base 1 (He.ma K (He.ga K "History") "row") (spHRow K) := by
  obtain ⟨fd, F⟩ := T.d_History_row
  refine okR F sc_History_row (fun vs H Q E h => ?_) (fun _ _ _ _ _ _ us hl => match us, hl with | [_, _], _ => rfl) (fun cdv A outer s H vs Q E hr h => ⟨_, (pss_one (ps_ret (pe_tup (pa_cons (pv 1) (pa_cons (pe_dget (hu_of hr) (pe_fld (pv 0) rfl) (pv 1) (fun _ _ => rfl)) (pa_cons (pe_dget1 (hu_of hr) (pe_fld (pv 0) rfl) (pv 1) ⟨rfl, rfl, rfl, rfl⟩) pa_nil)))))), ?_⟩)
  · obtain ⟨a, ps, stops, i, rfl, _⟩ := h; rfl
  · obtain ⟨a, ps, stops, i, rfl, HA, hi, hst, q⟩ := h
    obtain ⟨⟨dx, fa, pt, pas, l, h, kvl, ts, h1, F1, h3, h4, h5, h6⟩, h7⟩ := HA
    have hg := haK_get F1.nd hi h6 hst
    refine ⟨_, rfl, _, rfl, a, _, dx, _, _, rfl, h1, T.c_History, T.a_History_limits, rfl, _, rfl, l, oV (limOf stops i), rfl, by rw [← h5.2 i hi]; exact DGet.k (k := .inr (nameOf ps i)) h3, ?_⟩
    refine ⟨_, rfl, a, _, dx, _, _, rfl, h1, T.c_History, T.a_History_halts, rfl, h, rfl, .inl ⟨_, .inl h4⟩, _, rfl, _, DGet.k (k := .inr (nameOf ps i)) h4, by show 3 ≤ sizeLine; decide, fun r hr => ?_⟩
    refine q r _ (same_new hr) ⟨_, SqT.of upd_same, ?_⟩
    cases hh : haltOf stops i with
    | none =>
      rw [hh] at hg
      rw [show valV (haK ps stops ts) (.inr (nameOf ps i)) = none from hg]
      rfl
    | some x =>
      rw [hh] at hg
      obtain ⟨t, g1, g2⟩ := hg
      rw [g1]
      exact ⟨t, rfl, same_sqT (same_new hr) g2⟩
def spRows (K : PySem.W.Frag) : Sp := fun vs H Q _ => ∃ (a : Addr) (ps : List PT) (stops : List PM.Stop), vs = [.ref a] ∧ HistAt K H a ps stops ∧ (∀ x ∈ stops, x.2.1 < ps.length) ∧ ∀ t rs H', Same H H' → SqT K H' t (rs.map V.ref) → Paired (RowAt K H' ps (postAt ps) stops) rs (List.range ps.length) → Q (.ref t) H'
theorem sc_History_rows : FnScope ["self", "name"] ["self"] (defScope s_History_rows) := ⟨rfl, rfl, rfl, by decide +kernel, rfl, by decide +kernel, by decide +kernel⟩
theorem ok_History_rows (T : Txt K mg) : Fn P w K mg base 3 (pg K "History" "rows") (spRows K) := by
  obtain ⟨fd, F⟩ := T.d_History_rows
  have G_History_row := ok_History_row (P := P) (w := w) (base := base) T
  have G_Fence_names := ok_Fence_names (P := P) (w := w) (base := base) T
  refine okR F sc_History_rows (fun vs H Q E h => ?_) (fun _ _ _ _ _ _ us hl => match us, hl with | [_], _ => rfl) (fun cdv A outer s H vs Q E hr h => ⟨_, (pss_one (ps_ret (pe_callTy call_tuple_of (by rfl) T.f_tuple (by decide +kernel) (pa_cons (pe_lc (own := [("name", 1)]) rfl sc_History_rows.nd (pi_tup (pe_propR (pe_fld (pv 0) rfl) T.c_Fence T.p_Fence_names G_Fence_names (hr.mono (by decide)))) (blkOk_by (own := [("name", 1)]) (N := ["self", "name"]) (sc := defScope s_History_rows) (by decide +kernel)) (fun _ _ _ _ _ => (pg_name (i := 1) sc_History_rows.nd rfl (.inl rfl) (hf := .inr rfl))) (fun _ _ _ _ _ => pts_nil) (fun _ _ _ _ _ => (pe_methR (pv 0) T.c_History T.m_History_row G_History_row (hr.mono (by decide)) pass0 (pa_cons (pv 1) pa_nil)))) pa_nil)))), ?_⟩)
  · obtain ⟨a, ps, stops, rfl, _⟩ := h; rfl
  · obtain ⟨a, ps, stops, rfl, HA, hst, q⟩ := h
    obtain ⟨⟨dx, fa, pt, pas, l, h, kvl, ts, h1, F1, h3, h4, h5, h6⟩, h7⟩ := id HA
    obtain ⟨dxf, df, hf1, _⟩ := F1.ex
    refine ⟨_, rfl, a, _, dx, _, _, rfl, h1, T.c_History, T.a_History_painted, rfl, fa, dxf, _, rfl, hf1, fa, pt, pas, ps, rfl, F1, fun tn H2 e2 htn => ⟨tn, rfl, ⟨_, htn⟩, fun D hD => ?_⟩⟩
    refine lc_it walk_tup (fun i H' => Same H2 H' ∧ ∃ rs : List Addr, H' D = some (.lst (rs.map V.ref)) ∧ Paired (RowAt K H' ps (postAt ps) stops) rs (List.range i)) ⟨same_new hD, [], upd_same, .nil⟩ (fun i H' _ ⟨e, _⟩ => same_sqT e htn) (fun i v Hc H' hi ⟨eS, rs, hL, hpr⟩ y => ?_) (fun H3 ⟨e3, rs, hL, hpr⟩ => ?_)
    · obtain ⟨rfl, hv⟩ := y
      rw [List.getElem?_map] at hv
      obtain ⟨P0, hP0, ev⟩ := Option.map_eq_some_iff.mp hv
      subst ev
      rw [List.length_map] at hi
      have eH := e2.trans eS
      refine ⟨rfl, _, rfl, a, dx, _, rfl, eH _ _ h1, rfl, _, rfl, a, ps, stops, i, by rw [name_at hP0], HA.ex' (Off.same eH), hi, hst, fun r H4 e4 hR => ?_⟩
      refine ⟨_, e4 _ _ hL, ?_, same_put (eS.trans e4) hD, rs ++ [r], ?_, ?_⟩
      · have := Paired.length hpr
        rw [List.length_range] at this
        rw [List.length_map, this]
        exact Nat.lt_of_lt_of_le hi (Nat.le_trans F1.n8 (by decide))
      · rw [upd_same, List.map_append]; rfl
      · have e5 := (Fx.refl _).upd (o := .lst (rs.map V.ref ++ [V.ref r])) (e4 _ _ hL) lst_nf
        rw [List.range_succ]
        exact pr_snoc (pr_imp hpr fun a j h => h.fx ((Fx.same e4).trans e5)) (hR.fx e5)
    · rw [List.length_map] at hpr
      refine ⟨D, _, rfl, .inl ⟨.inl (.inl hL), fun t ht => ?_⟩⟩
      exact q t rs _ ((e2.trans e3).trans (same_new ht)) (SqT.of upd_same) (pr_imp hpr fun a j h => h.fx (Fx.same (same_new ht)))
def maxDay (stops : List PM.Stop) : Option Int := match stops.map (·.1) with
  | [] => none
  | n :: r => some (PySem.W.maxOf n r)
def spLast (K : PySem.W.Frag) : Sp := fun vs H Q _ => ∃ (a : Addr) (ps : List PT) (stops : List PM.Stop), vs = [.ref a] ∧ HistAt K H a ps stops ∧ ∀ H', Same H H' → Q (oV (maxDay stops)) H'
theorem sc_History_last_day : FnScope ["self", "stop"] ["self"] (defScope s_History_last_day) := ⟨rfl, rfl, rfl, by decide +kernel, rfl, by decide +kernel, by decide +kernel⟩
theorem ok_History_last_day (T : Txt K mg) : Fn P w K mg base 1 (pg K "History" "last_day") (spLast K) := by
  obtain ⟨fd, F⟩ := T.d_History_last_day
  refine okR F sc_History_last_day (fun vs H Q E h => ?_) (fun _ _ _ _ _ _ us hl => match us, hl with | [_], _ => rfl) (fun cdv A outer s H vs Q E hr h => ⟨_, (pss_one (ps_ret (pe_callBK (cr_maxI rfl hr.units) (by rfl) T.f_max (by decide +kernel) (pa_cons (pe_lock (pe_lc (own := [("stop", 1)]) (te := tOp (rIxT K) (tVar 1) (tC (.int 0))) rfl sc_History_last_day.nd (pi_values (pe_fld (pv 0) rfl)) (blkOk_by (own := [("stop", 1)]) (N := ["self", "stop"]) (sc := defScope s_History_last_day) (by decide +kernel)) (fun _ _ _ _ _ => (pg_name (i := 1) sc_History_last_day.nd rfl (.inl rfl) (hf := .inr rfl))) (fun _ _ _ _ _ => pts_nil) (fun _ _ _ _ _ => (pe_ix ix_tup (pv 1) pe_int (fun _ _ => rfl))))) pa_nil) (pk_cons pe_non pk_nil)))), ?_⟩)
  · obtain ⟨a, ps, stops, rfl, _⟩ := h; rfl
  · obtain ⟨a, ps, stops, rfl, HA, q⟩ := h
    obtain ⟨⟨dx, fa, pt, pas, l, h, kvl, ts, h1, F1, h3, h4, h5, h6⟩, h7⟩ := id HA
    refine ⟨h, _, h4, trivial, fun od => ?_⟩
    have hah : a ≠ h := ne_of h1 h4 (by intro z; cases z)
    refine ⟨_, rfl, a, _, dx, _, _, rfl, (upd_ne hah).trans h1, T.c_History, T.a_History_halts, rfl, h, od, _, rfl, upd_same, fun D hD => ?_⟩
    have hlen : (haK ps stops ts).length = stops.length := by
      unfold haK
      rw [List.length_map, List.length_zip, Paired.length h6, Nat.min_self]
    refine lc_it walk_values (fun i H' => Same (upd H h (.frz od (.dK (haK ps stops ts)))) H' ∧ H' D = some (.lst ((stops.take i).map fun x => V.int x.1))) ⟨same_new hD, upd_same⟩ (fun i H' _ ⟨e, _⟩ => e _ _ upd_same) (fun i v Hc H' hi ⟨eS, hL⟩ y => ?_) (fun H3 ⟨e3, hL⟩ => ?_)
    · obtain ⟨rfl, kk, hv⟩ := y
      rw [hlen] at hi
      obtain ⟨t, x, ht, hx, hsq⟩ := paired_at h6 hi
      have hz : (haK ps stops ts)[i]? = some (.inr (nameOf ps x.2.1), .ref t) := by
        unfold haK
        rw [List.getElem?_map, (List.getElem?_zip_eq_some (z := (x, t))).mpr ⟨hx, ht⟩]; rfl
      rw [hz] at hv
      cases hv
      have hsq' : SqT K H' t (haltV ps (postAt ps) x) := by
        refine same_sqT eS ?_
        rcases hsq with (g | ⟨u, g⟩) | g
        · exact .inl (.inl ((upd_ne (ne_of g h4 (by intro z; cases z))).trans g))
        · exact .inl (.inr ⟨u, (upd_ne (ne_of g h4 (by intro z; cases z))).trans g⟩)
        · exact .inr g
      refine ⟨rfl, _, rfl, t, _, _, _, rfl, rfl, hsq', rfl, _, hL, ?_, same_put eS hD, ?_⟩
      · rw [List.length_map, List.length_take]
        exact Nat.lt_of_le_of_lt (Nat.min_le_left _ _) (Nat.lt_of_lt_of_le hi (Nat.le_trans h7 (by decide)))
      · rw [upd_same, take_snoc hx, List.map_append]; rfl
    · rw [hlen, List.take_length] at hL
      have hz : H3 h = some (.frz od (.dK (haK ps stops ts))) := e3 _ _ upd_same
      have hDh : D ≠ h := fun z => by rw [z, hz] at hL; cases hL
      have eF : Same H (upd H3 h (.dK (haK ps stops ts))) := fun c o g => by
        by_cases hc : c = h
        · rw [hc] at g ⊢
          rw [h4] at g
          rw [upd_same]; exact g
        · rw [upd_ne hc]
          exact e3 c o ((upd_ne hc).trans g)
      refine ⟨hz, D, stops.map (·.1), rfl, rfl, ?_, fun hn => ?_, fun n r hn => ?_⟩
      · rw [List.map_map]
        exact .inl (.inl ((upd_ne hDh).trans hL))
      · have e : maxDay stops = none := by unfold maxDay; rw [hn]
        have z := q _ eF
        rw [e] at z
        exact z
      · have e : maxDay stops = some (PySem.W.maxOf n r) := by unfold maxDay; rw [hn]
        have z := q _ eF
        rw [e] at z
        exact z
def spHistory (K : PySem.W.Frag) (T0 : List NTab) : Sp := fun vs H Q _ => ∃ (fa pt : Addr) (pas : List Addr) (ps : List PT) (N f : Int), vs = [.ref fa] ∧ FenceAt K H fa pt pas ps ∧ PM.Fenced ps.length N f (dayOf ps) (postOf ps) (strOf ps) ∧ TabsN T0 H ∧
  ∀ x H' stops, Ex H H' → TabsN T0 H' → HistAt K H' x ps stops → PM.Run ps.length (dayOf ps) (PM.fbF (dayOf ps) (postOf ps) (strOf ps)) (fun _ => none) (fun _ => none) stops → Q (.ref x) H'
theorem sc_history : FnScope ["fence"] ["fence"] (defScope s_history) := ⟨rfl, rfl, rfl, by decide +kernel, rfl, by decide +kernel, by decide +kernel⟩
theorem ok_history (T : Txt K mg) {T0 : List NTab} : Fn P w K mg base 14 (He.ga K "history") (spHistory K T0) := by
  obtain ⟨fd, F⟩ := T.d_history
  have G_History_init := ok_History_init (P := P) (w := w) (base := base) (T0 := T0) T
  refine okR F sc_history (fun vs H Q E h => ?_) (fun _ _ _ _ _ _ us hl => match us, hl with | [_], _ => rfl) (fun cdv A outer s H vs Q E hr h => ⟨_, (pss_one (ps_ret (StX.pe_makeR T.k_History G_History_init (hr.mono (by decide)) (by rfl) T.g_History pass0 (pa_cons (pv 0) pa_nil)))), ?_⟩)
  · obtain ⟨fa, pt, pas, ps, N, f, rfl, _⟩ := h; rfl
  · obtain ⟨fa, pt, pas, ps, N, f, rfl, F1, hFe, tb, q⟩ := h
    refine ⟨_, rfl, fun x dx hx hdx hne => ?_⟩
    have e1 := same_made (C := He.ga K "History") hx hdx hne
    exact ⟨x, dx, fa, pt, pas, ps, N, f, rfl, upd_same, F1.same e1, hFe, tabs_same tb e1, fun H' stops o t hA hR => ⟨rfl, q x H' stops (fun c u g n _ => o c u (e1 c u g) n (ne_of_none g hx)) t hA hR⟩⟩
end PP
end
section
set_option maxHeartbeats 4000000
namespace PP
open PySem PySem.Spec PyProof.Rows L2 PR
variable {P : Program} {w : World} {K : PySem.W.Frag} {mg : Str → Option Value} {base : Heap}

open LamX NdefX
/-! ### least_true: bisection by a function handed over -/
def spLT (F : NF) (f : Addr) (ws : List (Option V)) (spm : List (Option V) → Sp) : Sp := fun vs H Q _ => ∃ (lo hi : Int) (tst : Int → Bool), vs = [.int lo, .int hi, .ref f] ∧ H f = some (FnO f F) ∧ H F.c = some (CodeO F.c F.qual) ∧ lo ≤ hi ∧
  (∀ (H' : Hp) (c : Int) (Q' : VK), Same H H' → lo ≤ c → c ≤ hi → (∀ H'', Same H' H'' → Q' (.bl (tst c)) H'') → spm ws [.int c] H' Q' E0) ∧ (∀ c d, lo ≤ c → c ≤ d → d ≤ hi → tst c = true → tst d = true) ∧ tst hi = true ∧
  ∀ r H', Same H H' → lo ≤ r → r ≤ hi → tst r = true → (∀ c, lo ≤ c → c < r → tst c = false) → Q (.int r) H'
def slotI (σ : List (Option V)) (i : Nat) : Int := match σ[i]? with
  | some (some (.int n)) => n
  | _ => 0
theorem sc_least_true : FnScope ["low", "high", "test", "middle"] ["low", "high", "test"] (defScope s_least_true) := ⟨rfl, rfl, rfl, by decide +kernel, rfl, by decide +kernel, by decide +kernel⟩
theorem ok_least_true (T : Txt K mg) {F0 : NF} {f : Addr} {fr : List Str} {ws : List (Option V)} {spm : List (Option V) → Sp} (O : NOk P w K mg base CX0 4 f F0 ["count"] fr spm) : FnG P w K mg base 5 (He.ga K "least_true") (Hand F0 fr ws) (spLT F0 f ws spm) := by
  obtain ⟨fd, F⟩ := T.d_least_true
  refine okG F sc_least_true (fun vs H Q h => ?_) (fun _ _ _ _ _ _ us hl => match us, hl with | [_, _, _], _ => rfl) (fun cdv A outer s H vs Q hr hG h => ⟨_, (pss_cons (ps_while PassesOwn.never (pt_cmpR op_lt (pv 0) (pv 1) (nomark _)) (pss_cons (ps_set (i := 3) sc_least_true.nd rfl (.inl rfl) (pe_op op_fdivW (pe_op op_add (pv 0) (pv 1)) pe_int))
    (pss_one (ps_if (pt_val (pe_callH (i := 2) O hr (Nat.le_refl _) hG rfl (pa_cons (pv 3) pa_nil))) (pss_one (ps_set (i := 1) sc_least_true.nd rfl (.inl rfl) (pv 3))) (pss_one (ps_set (i := 0) sc_least_true.nd rfl (.inl rfl) (pe_op op_add (pv 3) pe_int)))))))
    (pss_one (ps_ret (pv 1)))), ?_⟩)
  · obtain ⟨lo, hi, tst, rfl, _⟩ := h; rfl
  · obtain ⟨lo, hi, tst, rfl, hf, hc, hle, hcall, hmono, htop, q⟩ := h
    refine while_by (fun σ H' => Same H H' ∧ ∃ (a b : Int) (z : Option V), σ = [some (.int a), some (.int b), some (.ref f), z] ∧ lo ≤ a ∧ a ≤ b ∧ b ≤ hi ∧ tst b = true ∧ ∀ c, lo ≤ c → c < a → tst c = false) (fun σ _ => (slotI σ 1 - slotI σ 0).toNat)
      ⟨Same.refl H, lo, hi, _, rfl, Int.le_refl _, hle, Int.le_refl _, htop, fun c h1 h2 => by omega⟩ (fun σ H1 ⟨eH, a, b, z, eσ, h1, h2, h3, h4, h5⟩ => ?_) (fun σ H1 Q1 Q2 hm hc => ?_)
    · subst eσ
      refine ⟨_, rfl, _, rfl, _, _, rfl, rfl, _, rfl, ?_⟩
      by_cases hab : a < b
      · rw [decide_eq_true hab]
        refine ⟨_, rfl, _, rfl, _, _, rfl, rfl, _, _, rfl, rfl, div2, ?_⟩
        have m1 : a ≤ (a + b) / 2 := by omega
        have m2 : (a + b) / 2 < b := by omega
        refine ⟨rfl, eH _ _ hf, _, rfl, eH _ _ hf, eH _ _ hc, hcall H1 _ _ eH (by omega) (by omega) fun H2 e2 => ⟨_, rfl, ?_⟩⟩
        cases ht : tst ((a + b) / 2) with
        | true =>
          refine ⟨_, rfl, ⟨eH.trans e2, a, (a + b) / 2, _, rfl, h1, m1, by omega, ht, h5⟩, ?_⟩
          show ((a + b) / 2 - a).toNat < (b - a).toNat
          omega
        | false =>
          refine ⟨_, rfl, _, _, rfl, rfl, ⟨eH.trans e2, (a + b) / 2 + 1, b, _, rfl, by omega, by omega, h3, h4, fun c g1 g2 => ?_⟩, ?_⟩
          · cases hcc : tst c with
            | false => rfl
            | true =>
              have := hmono c ((a + b) / 2) g1 (by omega) (by omega) hcc
              rw [ht] at this
              cases this
          · show (b - ((a + b) / 2 + 1)).toNat < (b - a).toNat
            omega
      · rw [decide_eq_false hab]
        have e : a = b := by omega
        subst e
        exact ⟨_, rfl, q a H1 eH h1 h3 h4 h5⟩
    · obtain ⟨v, e, v2, e3, i, j, e1, e2, k, ek, q⟩ := hc
      exact ⟨v, e, v2, e3, i, j, e1, e2, k, ek, hm _ _ q⟩
end PP
end
section
set_option maxHeartbeats 4000000
namespace PP
open PySem PySem.Spec PyProof.Rows L2 PR
variable {P : Program} {w : World} {K : PySem.W.Frag} {mg : Str → Option Value} {base : Heap}

open LamX NdefX
/-! ### RingCrossing.__init__ -/
def rcF (wait len cyc : Int) (em : Bool) (step start slope off : Int) : Fl := [("wait", .int wait), ("length", .int len), ("cycle", .int cyc), ("is_empty", .bl em), ("step", .int step), ("start", .int start), ("slope", .int slope), ("offset", .int off)]
structure RcData (N d1 x1 s1 d2 x2 s2 wait len cyc : Int) (em : Bool) (step start slope off : Int) : Prop where
  w : wait = d1 - d2
  l : len = N / ((Int.gcd (s1 % N) N : Nat) : Int)
  c : cyc = N / ((Int.gcd (s2 % N) N : Nat) : Int)
  ok : PM.RcOk N x1 s1 x2 s2 em cyc step start slope off
  zw : Sz 1001 wait
  zl : Sz 1000 len
  zc : Sz 1000 cyc
  zs : Sz 1000 step
  zt : Sz 1000 start
  zp : Sz 1000 slope
  zo : Sz 1000 off
def RcAt (K : PySem.W.Frag) (H : Hp) (a : Addr) (N d1 x1 s1 d2 x2 s2 : Int) : Prop := ∃ dx wait len cyc em step start slope off, H a = some (.ins (He.ga K "RingCrossing") dx (rcF wait len cyc em step start slope off)) ∧ RcData N d1 x1 s1 d2 x2 s2 wait len cyc em step start slope off
def spRcI (K : PySem.W.Frag) : Sp := fun vs H Q _ => ∃ (x dx t1 t2 : Addr) (N d1 x1 s1 d2 x2 s2 : Int), vs = [.ref x, .int N, .ref t1, .ref t2] ∧ H x = some (.ins (He.ga K "RingCrossing") dx []) ∧ SqT K H t1 (wayV d1 x1 s1) ∧ SqT K H t2 (wayV d2 x2 s2) ∧ WayOk d1 x1 s1 ∧ WayOk d2 x2 s2 ∧ 0 < N ∧ Sz 1000 N ∧
  ∀ H', But x H H' → RcAt K H' x N d1 x1 s1 d2 x2 s2 → Q .non H'
theorem sc_RingCrossing_init : FnScope ["self", "size", "one", "other", "gap", "pace", "other_pace", "divisor", "common", "turn"] ["self", "size", "one", "other"] (defScope s_RingCrossing_init) := ⟨rfl, rfl, rfl, by decide +kernel, rfl, by decide +kernel, by decide +kernel⟩
theorem ok_RingCrossing_init (T : Txt K mg) : Fn P w K mg base 2 (He.ma K (He.ga K "RingCrossing") "__init__") (spRcI K) := by
  obtain ⟨fd, F⟩ := T.d_RingCrossing_init
  have G_inverse := ok_inverse (P := P) (w := w) (base := base) T
  have G_greatest_divisor := ok_greatest_divisor (P := P) (w := w) (base := base) T
  refine okR F sc_RingCrossing_init (fun vs H Q E h => ?_) (fun _ _ _ _ _ _ us hl => match us, hl with | [_, _, _, _], _ => rfl) (fun cdv A outer s H vs Q E hr h => ⟨_, (pss_cons (L2.ps_par3 (i := 4) (j := 5) (l := 6) (by rfl) sc_RingCrossing_init.nd rfl rfl rfl (by decide) (by decide) (by decide) rfl rfl rfl (pa_cons (pe_op op_sub (pe_ix ix_tup (pv 2) pe_int (fun _ _ => rfl)) (pe_ix ix_tup (pv 3) pe_int (fun _ _ => rfl))) (pa_cons (pe_op op_mod (pe_ix ix_tup (pv 2) pe_int (fun _ _ => rfl)) (pv 1)) (pa_cons (pe_op op_mod (pe_ix ix_tup (pv 3) pe_int (fun _ _ => rfl)) (pv 1)) pa_nil))) (by rfl))
    (pss_cons (ps_set (i := 7) sc_RingCrossing_init.nd rfl (.inl rfl) (pe_callR G_greatest_divisor (hr.mono (by decide)) T.g_greatest_divisor (T.d_greatest_divisor.elim fun _ F => F.kp) (pa_cons (pv 6) (pa_cons (pv 1) pa_nil))))
    (pss_cons (ps_set (i := 8) sc_RingCrossing_init.nd rfl (.inl rfl) (pe_callR G_greatest_divisor (hr.mono (by decide)) T.g_greatest_divisor (T.d_greatest_divisor.elim fun _ F => F.kp) (pa_cons (pv 5) (pa_cons (pv 7) pa_nil))))
    (pss_cons (ps_fld (pv 0) (pe_op op_sub (pe_ix ix_tup (pv 2) pe_int (fun _ _ => rfl)) (pe_ix ix_tup (pv 3) pe_int (fun _ _ => rfl))) rfl)
    (pss_cons (ps_fld (pv 0) (pe_op op_fdivW (pv 1) (pe_callR G_greatest_divisor (hr.mono (by decide)) T.g_greatest_divisor (T.d_greatest_divisor.elim fun _ F => F.kp) (pa_cons (pv 5) (pa_cons (pv 1) pa_nil)))) rfl)
    (pss_cons (ps_fld (pv 0) (pe_op op_fdivW (pv 1) (pv 7)) rfl)
    (pss_cons (ps_fld (pv 0) (pe_cmpR op_ne (pe_op op_mod (pv 4) (pv 8)) pe_int (nomark _)) rfl)
    (pss_cons (ps_fld (pv 0) (pe_op op_fdivW (pv 7) (pv 8)) rfl)
    (pss_cons (ps_fld (pv 0) (pe_op op_mod (pe_op op_mulW (pe_un un_neg (pe_op op_fdivW (pv 4) (pv 8))) (pe_callR G_inverse (hr.mono (by decide)) T.g_inverse (T.d_inverse.elim fun _ F => F.kp) (pa_cons (pe_op op_fdivW (pv 5) (pv 8)) (pa_cons (pe_fld (pv 0) rfl) pa_nil)))) (pe_fld (pv 0) rfl)) rfl)
    (pss_cons (ps_set (i := 9) sc_RingCrossing_init.nd rfl (.inl rfl) (pe_callR G_inverse (hr.mono (by decide)) T.g_inverse (T.d_inverse.elim fun _ F => F.kp) (pa_cons (pe_op op_fdivW (pv 6) (pv 7)) (pa_cons (pe_fld (pv 0) rfl) pa_nil))))
    (pss_cons (ps_fld (pv 0) (pe_op op_mod (pe_op op_mulW (pe_op op_fdivW (pe_op op_mulW (pe_fld (pv 0) rfl) (pv 5)) (pv 7)) (pv 9)) (pe_fld (pv 0) rfl)) rfl)
    (pss_one (ps_fld (pv 0) (pe_op op_mod (pe_op op_mulW (pe_op op_fdivW (pe_op op_add (pv 4) (pe_op op_mulW (pe_fld (pv 0) rfl) (pv 5))) (pv 7)) (pv 9)) (pe_fld (pv 0) rfl)) rfl))))))))))))), ?_⟩)
  · obtain ⟨x, dx, t1, t2, N, d1, x1, s1, d2, x2, s2, rfl, _⟩ := h; rfl
  · obtain ⟨x, dx, t1, t2, N, d1, x1, s1, d2, x2, s2, rfl, hx, h1, h2, w1, w2, hN, zN, q⟩ := h
    have g0 : 0 < ((Int.gcd (s2 % N) N : Nat) : Int) := PM.gcd_pos_r (by omega)
    generalize hg : ((Int.gcd (s2 % N) N : Nat) : Int) = g at g0
    have c0 : 0 < ((Int.gcd (s1 % N) g : Nat) : Int) := PM.gcd_pos_r (by omega)
    generalize hc : ((Int.gcd (s1 % N) g : Nat) : Int) = c at c0
    have l0 : 0 < ((Int.gcd (s1 % N) N : Nat) : Int) := PM.gcd_pos_r (by omega)
    generalize hl : ((Int.gcd (s1 % N) N : Nat) : Int) = gl at l0
    have le : ∀ {a b : Int}, a ∣ b → 0 < b → Sz 1000 b → 0 < a → Sz 1000 a := fun {a b} d hb z ha => z.small (by
      have := Int.le_of_dvd hb d
      omega)
    have dgN : g ∣ N := by rw [← hg]; exact Int.gcd_dvd_right _ _
    have dlN : gl ∣ N := by rw [← hl]; exact Int.gcd_dvd_right _ _
    have dcg : c ∣ g := by rw [← hc]; exact Int.gcd_dvd_right _ _
    have zg : Sz 1000 g := le dgN hN zN g0
    have zc : Sz 1000 c := le dcg g0 zg c0
    have zl : Sz 1000 gl := le dlN hN zN l0
    have zp1 : Sz 1000 (s1 % N) := zN.emod hN
    have zp2 : Sz 1000 (s2 % N) := zN.emod hN
    have zgap : Sz 1001 (x1 - x2) := w1.zx.sub w2.zx
    have hst : 0 < g / c := Int.ediv_pos_of_pos_of_dvd g0 (by omega) dcg
    have hcy : 0 < N / g := Int.ediv_pos_of_pos_of_dvd hN (by omega) dgN
    have zst : Sz 1000 (g / c) := zg.ediv c0
    have zcy : Sz 1000 (N / g) := zN.ediv g0
    have k1 : Int.gcd (s1 % N / c) (g / c) = 1 := cop hc.symm c0
    have k2 : Int.gcd (s2 % N / g) (N / g) = 1 := cop hg.symm g0
    refine ⟨_, rfl, t1, _, _, _, rfl, rfl, h1, rfl, _, rfl, t2, _, _, _, rfl, rfl, h2, rfl, _, _, rfl, rfl, _, rfl, t1, _, _, _, rfl, rfl, h1, rfl, _, rfl, _, _, rfl, rfl, hN, _, rfl, t2, _, _, _, rfl, rfl, h2, rfl, _, rfl, _, _, rfl, rfl, hN, _, _, _, rfl, ?_⟩
    refine ⟨_, rfl, _, rfl, _, _, rfl, ?_⟩
    rw [hg]
    refine ⟨_, rfl, _, rfl, _, _, rfl, ?_⟩
    rw [hc]
    -- wait, length, cycle, is_empty, step
    refine ⟨_, rfl, t1, _, _, _, rfl, rfl, h1, rfl, _, rfl, t2, _, _, _, rfl, rfl, h2, rfl, _, _, rfl, rfl, _, rfl, x, _, dx, _, rfl, hx, T.c_RingCrossing, T.a_RingCrossing_wait, (by decide : (0 : Nat) < 1000), ?_⟩
    refine ⟨_, rfl, _, rfl, _, rfl, _, _, rfl, ?_⟩
    rw [hl]
    refine ⟨_, _, rfl, rfl, zl.div l0 (by decide), _, rfl, x, _, dx, _, rfl, upd_same, T.c_RingCrossing, T.a_RingCrossing_length, (by decide : (1 : Nat) < 1000), ?_⟩
    refine ⟨_, rfl, _, rfl, _, _, rfl, rfl, zg.div g0 (by decide), _, rfl, x, _, dx, _, rfl, upd_same, T.c_RingCrossing, T.a_RingCrossing_cycle, (by decide : (2 : Nat) < 1000), ?_⟩
    refine ⟨_, rfl, _, rfl, _, _, rfl, rfl, c0, rfl, _, rfl, x, _, dx, _, rfl, upd_same, T.c_RingCrossing, T.a_RingCrossing_is_empty, (by decide : (3 : Nat) < 1000), ?_⟩
    refine ⟨_, rfl, _, rfl, _, _, rfl, rfl, zc.div c0 (by decide), _, rfl, x, _, dx, _, rfl, upd_same, T.c_RingCrossing, T.a_RingCrossing_step, (by decide : (4 : Nat) < 1000), ?_⟩
    -- start
    refine ⟨_, rfl, _, rfl, _, _, rfl, rfl, zc.div c0 (by decide), _, rfl, _, rfl, _, rfl, _, _, rfl, rfl, zc.div c0 (by decide), _, rfl, x, _, dx, _, _, rfl, upd_same, T.c_RingCrossing, T.a_RingCrossing_step, rfl, ?_⟩
    refine ⟨s1 % N / c, g / c, rfl, hst, zst.mono (by decide), k1, fun u1 H2 e2 hi1 => ?_⟩
    have zu1 : Sz 1000 u1 := zst.small (by have := hi1.1; have := hi1.2.1; omega)
    have zs0 : Sz 1000 (-((x1 - x2) / c) * u1 % (g / c)) := zst.emod hst
    have hm : Sz 1001 (-((x1 - x2) / c)) := (zgap.ediv c0).neg
    refine ⟨_, _, rfl, rfl, hm.mul zu1 (by decide), _, rfl, x, _, dx, _, _, rfl, e2 _ _ upd_same, T.c_RingCrossing, T.a_RingCrossing_step, rfl, _, _, rfl, rfl, hst, _, rfl, x, _, dx, _, rfl, e2 _ _ upd_same, T.c_RingCrossing, T.a_RingCrossing_start, (by decide : (5 : Nat) < 1000), ?_⟩
    -- turn
    refine ⟨_, rfl, _, rfl, _, _, rfl, rfl, zg.div g0 (by decide), _, rfl, x, _, dx, _, _, rfl, upd_same, T.c_RingCrossing, T.a_RingCrossing_cycle, rfl, ?_⟩
    refine ⟨s2 % N / g, N / g, rfl, hcy, zcy.mono (by decide), k2, fun u2 H3 e3 hi2 => ?_⟩
    have zu2 : Sz 1000 u2 := zcy.small (by have := hi2.1; have := hi2.2.1; omega)
    -- slope
    refine ⟨_, rfl, x, _, dx, _, _, rfl, e3 _ _ upd_same, T.c_RingCrossing, T.a_RingCrossing_step, rfl, _, rfl, _, _, rfl, rfl, zst.mul zp1 (by decide), _, rfl, _, _, rfl, rfl, zg.div g0 (by decide), _, rfl, _, _, rfl, rfl, ((zst.times zp1).ediv g0).mul zu2 (by decide), _, rfl, x, _, dx, _, _, rfl, e3 _ _ upd_same, T.c_RingCrossing, T.a_RingCrossing_cycle, rfl, _, _, rfl, rfl, hcy,
      _, rfl, x, _, dx, _, rfl, e3 _ _ upd_same, T.c_RingCrossing, T.a_RingCrossing_slope, (by decide : (6 : Nat) < 1000), ?_⟩
    -- offset
    have zin : Sz 2001 (x1 - x2 + -((x1 - x2) / c) * u1 % (g / c) * (s1 % N)) := (zgap.mono (by decide : 1001 ≤ 2000)).add (zs0.times zp1)
    refine ⟨_, rfl, _, rfl, x, _, dx, _, _, rfl, upd_same, T.c_RingCrossing, T.a_RingCrossing_start, rfl, _, rfl, _, _, rfl, rfl, zs0.mul zp1 (by decide), _, _, rfl, rfl, _, rfl, _, _, rfl, rfl, zg.div g0 (by decide), _, rfl, _, _, rfl, rfl, (zin.ediv g0).mul zu2 (by decide), _, rfl, x, _, dx, _, _, rfl, upd_same, T.c_RingCrossing, T.a_RingCrossing_cycle, rfl, _, _, rfl, rfl, hcy,
      _, rfl, x, _, dx, _, rfl, upd_same, T.c_RingCrossing, T.a_RingCrossing_offset, (by decide : (7 : Nat) < 1000), ?_⟩
    have bA : But x H H2 := fun cc o hh n => e2 cc o (by rw [upd_ne n, upd_ne n, upd_ne n, upd_ne n, upd_ne n]; exact hh)
    have bB : ∀ o, But x H (upd H2 x o) := fun o => bA.upd
    have bC : But x H H3 := (bB _).same e3
    refine q _ ((bC.upd).upd) ⟨dx, d1 - d2, N / gl, N / g, _, _, _, _, _, upd_same, rfl, by rw [hl], by rw [hg], ?_, (w1.zd.sub w2.zd), zN.ediv l0, zcy, zst, zs0, zcy.emod hcy, zcy.emod hcy⟩
    have ok := PM.ring_ok (x1 := x1) (x2 := x2) (s1 := s1) (s2 := s2) hN hg.symm hc.symm hi1 hi2
    rw [ne0_bl]
    exact ok
end PP
end
section
set_option maxHeartbeats 4000000
namespace PP
open PySem PySem.Spec PyProof.Rows L2 PR
variable {P : Program} {w : World} {K : PySem.W.Frag} {mg : Str → Option Value} {base : Heap}

open LamX NdefX
/-! ### the nested defs -/
abbrev s_met1 : Stmt := (defBody s_RingCrossing_first_rising).getD 2 (.Pass ⟨0, 0, 0, 0⟩)
abbrev s_met2 : Stmt := (defBody s_RingCrossing_first_steady).getD 1 (.Pass ⟨0, 0, 0, 0⟩)
def fr1 : List Str := ["self", "slope", "bound", "first", "second"]
def fr2 : List Str := ["self", "first", "limit"]
def N1 : List Str := ["count", "self", "slope", "bound", "first", "second", "hits"]
def N2 : List Str := ["count", "self", "first", "limit"]
def q1 : Str := "RingCrossing.first_rising" ++ (".<locals>." : Str) ++ "is_met"
def q2 : Str := "RingCrossing.first_steady" ++ (".<locals>." : Str) ++ "is_met"
/-- the ring's crossing: what the nested defs read of it -/
def RcF (K : PySem.W.Frag) (H : Hp) (a : Addr) (len cyc : Int) (em : Bool) (step start slope off : Int) : Prop := ∃ dx wait, H a = some (.ins (He.ga K "RingCrossing") dx (rcF wait len cyc em step start slope off))
def tst1 (cyc sl bd fi se : Int) (c : Int) : Bool := decide (PM.FS cyc sl fi c.toNat - PM.FS cyc bd se c.toNat > 0)
def tst2 (cyc sl fi li : Int) (c : Int) : Bool := decide (PM.FS cyc sl fi c.toNat - PM.FS cyc sl (fi - li) c.toNat > 0)
def spMet1 (K : PySem.W.Frag) : List (Option V) → Sp := fun ws vs H Q _ => ∃ (a : Addr) (len cyc : Int) (em : Bool) (step start slope off sl bd fi se c : Int), ws = [some (.ref a), some (.int sl), some (.int bd), some (.int fi), some (.int se)] ∧ vs = [.int c] ∧ RcF K H a len cyc em step start slope off ∧
  0 < cyc ∧ 0 ≤ c ∧ Sz 4000 c ∧ Sz 4000 cyc ∧ Sz 4000 sl ∧ Sz 4000 bd ∧ Sz 4000 fi ∧ Sz 4000 se ∧ ∀ H', Same H H' → Q (.bl (tst1 cyc sl bd fi se c)) H'
def spMet2 (K : PySem.W.Frag) : List (Option V) → Sp := fun ws vs H Q _ => ∃ (a : Addr) (len cyc : Int) (em : Bool) (step start slope off fi li c : Int), ws = [some (.ref a), some (.int fi), some (.int li)] ∧ vs = [.int c] ∧ RcF K H a len cyc em step start slope off ∧
  0 < cyc ∧ 0 ≤ c ∧ Sz 3000 c ∧ Sz 3000 cyc ∧ Sz 3000 slope ∧ Sz 3000 fi ∧ Sz 3000 li ∧ ∀ H', Same H H' → Q (.bl (tst2 cyc slope fi li c)) H'
theorem ns1 : NScope N1 ["count"] fr1 (C8.fnScope s_met1) := nscope_by (by decide +kernel)
theorem ns2 : NScope N2 ["count"] fr2 (C8.fnScope s_met2) := nscope_by (by decide +kernel)
theorem nok1 (T : Txt K mg) (q : Str) (cl : List (Str × Addr)) (f c : Addr) : NOk P w K mg base CX0 4 f (NF.of s_met1 "is_met" q cl c) ["count"] fr1 (spMet1 K) := by
  have G_floor_sum := ok_floor_sum (P := P) (w := w) (base := base) T
  refine nok_of (N := N1) ns1 (fun doc pm ctv us hl => match us, hl with | [_], _ => rfl) (fun ws vs H Q E h => ?_) (fun A outer s H vs ws Q E hr hf hc hl h => ⟨_, (pss_cons (ps_set (i := 6) ns1.nd rfl (.inl rfl) (pe_op op_sub
    (pe_callR G_floor_sum (hr.mono (by decide)) T.g_floor_sum (T.d_floor_sum.elim fun _ F => F.kp) (pa_cons (pv 0) (pa_cons (pe_fld (pv 1) rfl) (pa_cons (pv 2) (pa_cons (pv 4) pa_nil)))))
    (pe_callR G_floor_sum (hr.mono (by decide)) T.g_floor_sum (T.d_floor_sum.elim fun _ F => F.kp) (pa_cons (pv 0) (pa_cons (pe_fld (pv 1) rfl) (pa_cons (pv 3) (pa_cons (pv 5) pa_nil)))))))
    (pss_one (ps_ret (pe_cmpR op_gt (pv 6) pe_int (nomark _))))), ?_⟩)
  · obtain ⟨a, len, cyc, em, step, start, slope, off, sl, bd, fi, se, c, _, rfl, _⟩ := h; rfl
  · obtain ⟨a, len, cyc, em, step, start, slope, off, sl, bd, fi, se, n, rfl, rfl, ⟨dx, wt, ha⟩, hcy, hn, zn, zc, zs, zb, zf, ze, hk⟩ := h
    have en : ((n.toNat : Nat) : Int) = n := by omega
    refine ⟨_, rfl, _, rfl, a, _, dx, _, _, rfl, ha, T.c_RingCrossing, T.a_RingCrossing_cycle, rfl, _, rfl, _, rfl, n.toNat, cyc, sl, fi, by rw [en], hcy, by rw [en]; exact zn, zc, zs, zf, fun H1 e1 => ?_⟩
    refine ⟨_, rfl, _, rfl, a, _, dx, _, _, rfl, e1 _ _ ha, T.c_RingCrossing, T.a_RingCrossing_cycle, rfl, _, rfl, _, rfl, n.toNat, cyc, bd, se, by rw [en], hcy, by rw [en]; exact zn, zc, zb, ze, fun H2 e2 => ?_⟩
    exact ⟨_, _, rfl, rfl, _, rfl, _, _, rfl, rfl, hk H2 (e1.trans e2)⟩
theorem nok2 (T : Txt K mg) (q : Str) (cl : List (Str × Addr)) (f c : Addr) : NOk P w K mg base CX0 4 f (NF.of s_met2 "is_met" q cl c) ["count"] fr2 (spMet2 K) := by
  have G_below := ok_remainders_below (P := P) (w := w) (base := base) T
  refine nok_of (N := N2) ns2 (fun doc pm ctv us hl => match us, hl with | [_], _ => rfl) (fun ws vs H Q E h => ?_) (fun A outer s H vs ws Q E hr hf hc hl h => ⟨_, (pss_one (ps_ret (pe_cmpR op_gt
    (pe_callR G_below (hr.mono (by decide)) T.g_remainders_below (T.d_remainders_below.elim fun _ F => F.kp) (pa_cons (pv 0) (pa_cons (pe_fld (pv 1) rfl) (pa_cons (pe_fld (pv 1) rfl) (pa_cons (pv 2) (pa_cons (pv 3) pa_nil)))))) pe_int (nomark _)))), ?_⟩)
  · obtain ⟨a, len, cyc, em, step, start, slope, off, fi, li, c, _, rfl, _⟩ := h; rfl
  · obtain ⟨a, len, cyc, em, step, start, slope, off, fi, li, n, rfl, rfl, ⟨dx, wt, ha⟩, hcy, hn, zn, zc, zs, zf, zl, hk⟩ := h
    have en : ((n.toNat : Nat) : Int) = n := by omega
    refine ⟨_, rfl, _, rfl, a, _, dx, _, _, rfl, ha, T.c_RingCrossing, T.a_RingCrossing_cycle, rfl, _, rfl, a, _, dx, _, _, rfl, ha, T.c_RingCrossing, T.a_RingCrossing_slope, rfl, _, rfl, _, rfl, n.toNat, cyc, slope, fi, li, by rw [en], hcy, by rw [en]; exact zn, zc, zs, zf, zl, fun H1 e1 => ?_⟩
    exact ⟨_, _, rfl, rfl, hk H1 e1⟩
end PP
end
section
set_option maxHeartbeats 4000000
namespace PP
open PySem PySem.Spec PyProof.Rows L2 PR
variable {P : Program} {w : World} {K : PySem.W.Frag} {mg : Str → Option Value} {base : Heap}

open LamX NdefX
/-- a def's promise by its body, its code object told -/
theorem okC {k : Nat} {f : Addr} {sp : Sp} {x qual : Str} {params : Arguments} {body : List Stmt} {scope : Scope} {N ps : List Str} {fd : FuncData} (F : FunD K x qual params body scope [] [] f fd) (S : FnScope N ps scope) (len : ∀ vs H Q E, sp vs H Q E → vs.length = ps.length)
    (hb : ∀ (kV doc pm : Value) (an : Option Addr) (cdv ct : Value) (us : List Value), us.length = ps.length → bindArgs (PySem.W.fnOf x qual params body scope .none kV doc pm an cdv ct) ⟨us, []⟩ = pure (ps.zip us))
    (hbody : ∀ c : Addr, (∃ oc od osl, K.lookup f = some ⟨oc, od, .func fd, osl⟩ ∧ fd.code = .ref c) → ∀ (A : Around) (outer : List Env) (s : Shared) (H : Hp) (vs : List V) (Q : VK) (E : XK), Room k (A.deeper (envOfC qual scope s.heap.objs.size f (.ref c))) → sp vs H Q E →
      ∃ t, PSs (cxOf CX0 P w K mg base N qual scope f (.ref c) A outer s H E).nox body t ∧ t ⟨fun _ H' => Q .non H', Q, fun _ _ => False, fun _ _ => False⟩ (start N vs) H) : Fn P w K mg base (k + 1) f sp := by
  have bb := F.bindsN hb
  obtain ⟨oc, od, dV, kV, doc, pm, an, cdv, ct, osl, rfl, lk, hcd, _, _⟩ := F.ex
  obtain ⟨c, rfl⟩ := He.codeIn_ref hcd
  have O : FnOk P w K mg base CX0 (k + 1) f _ ps sp := fn_of lk hcd S len fun A outer s H vs Q E hr h => by
    obtain ⟨t, h1, h2⟩ := hbody c ⟨oc, od, osl, lk, rfl⟩ A outer s H vs Q E hr h
    exact ⟨t, h1.nox, h2⟩
  exact (O.raw bb .nil).imp fun vs H Q E h => by rw [List.append_nil]; exact h
/-- the tables of code objects -/
def tbl (K : PySem.W.Frag) : List NTab := [((He.cT K pR).2, fun _ _ => q1), ((He.cT K pS).2, fun _ _ => q2)]
structure Tbs (K : PySem.W.Frag) (mg : Str → Option Value) (base : Heap) : Prop where
  r : TabB base mg (He.cT K pR).1 (He.cT K pR).2
  s : TabB base mg (He.cT K pS).1 (He.cT K pS).2
  ne : (He.cT K pR).2 ≠ (He.cT K pS).2
theorem hu1 (B : Tbs K mg base) : ∀ p ∈ tbl K, p.1 = (He.cT K pR).2 → p.2 = fun _ _ => q1 := fun p hp e => by
  rcases List.mem_cons.mp hp with z | z
  · rw [z]
  · rw [List.mem_singleton.mp z] at e
    exact absurd e.symm B.ne
theorem hu2 (B : Tbs K mg base) : ∀ p ∈ tbl K, p.1 = (He.cT K pS).2 → p.2 = fun _ _ => q2 := fun p hp e => by
  rcases List.mem_cons.mp hp with z | z
  · rw [z] at e
    exact absurd e B.ne
  · rw [List.mem_singleton.mp z]
def spRise (K : PySem.W.Frag) : Sp := fun vs H Q _ => ∃ (a dx : Addr) (wait len cyc : Int) (em : Bool) (step start slope off low high late limit : Int), vs = [.ref a, .int low, .int high, .int late] ∧ H a = some (.ins (He.ga K "RingCrossing") dx (rcF wait len cyc em step start slope off)) ∧
  0 < cyc ∧ 0 < step ∧ Sz 1000 cyc ∧ Sz 1000 step ∧ Sz 1000 slope ∧ Sz 1000 off ∧ Sz 1100 low ∧ Sz 1100 high ∧ Sz 1100 late ∧ limit ≤ cyc ∧ (∀ m, low ≤ m → 0 ≤ late + m * step) ∧ (∀ m, low ≤ m → m ≤ high → late + m * step < limit - 1) ∧ TabsN (tbl K) H ∧
  ∀ r H', Ex H H' → TabsN (tbl K) H' → PM.RangeLeast (fun m => (off + slope * m) % cyc < late + 1 + step * m) low high r → Q (oV r) H'
theorem sc_RingCrossing_first_rising : FnScope ["self", "low", "high", "late", "slope", "bound", "first", "second", "is_met", "many"] ["self", "low", "high", "late"] (defScope s_RingCrossing_first_rising) := ⟨rfl, rfl, rfl, by decide +kernel, rfl, by decide +kernel, by decide +kernel⟩
theorem nf1 : ∀ y ∈ (C8.fnScope s_met1).names, y.2 = .free → (defScope s_RingCrossing_first_rising).names.lookup y.1 = some .cell ∨ (defScope s_RingCrossing_first_rising).names.lookup y.1 = some .free := ndef_free (fr := fr1) (by decide +kernel)
theorem nr1 : ∀ y ∈ fr1, (y, NameKind.free) ∈ (C8.fnScope s_met1).names := ndef_fr (sc := defScope s_RingCrossing_first_rising) (by decide +kernel)
theorem nf2 : ∀ y ∈ (C8.fnScope s_met2).names, y.2 = .free → (defScope s_RingCrossing_first_steady).names.lookup y.1 = some .cell ∨ (defScope s_RingCrossing_first_steady).names.lookup y.1 = some .free := ndef_free (fr := fr2) (by decide +kernel)
theorem nr2 : ∀ y ∈ fr2, (y, NameKind.free) ∈ (C8.fnScope s_met2).names := ndef_fr (sc := defScope s_RingCrossing_first_steady) (by decide +kernel)
theorem ok_rise (T : Txt K mg) (B : Tbs K mg base) : Fn P w K mg base 8 (He.ma K (He.ga K "RingCrossing") "first_rising") (spRise K) := by
  obtain ⟨fd, F⟩ := T.d_RingCrossing_first_rising
  refine okC F sc_RingCrossing_first_rising (fun vs H Q E h => ?_) (fun _ _ _ _ _ _ us hl => match us, hl with | [_, _, _, _], _ => rfl) (fun c hc A outer s H vs Q E hr h => ?_)
  · obtain ⟨a, dx, wait, len, cyc, em, step, start, slope, off, low, high, late, limit, rfl, _⟩ := h; rfl
  obtain ⟨oc, od, osl, lk, ec⟩ := hc
  have eC : c = (He.cT K pR).1 := (He.codeOf_eq (K := K) (p := pR) lk ec).symm
  subst eC
  refine ⟨_, (pss_cons (ps_asg (pe_tup (pa_cons (pe_fld (pv 0) rfl) (pa_cons (pe_op op_sub (pe_fld (pv 0) rfl) (pe_fld (pv 0) rfl)) pa_nil))) (pg_tup rfl (pgs_cons (pg_name (i := 4) sc_RingCrossing_first_rising.nd rfl (.inr rfl)) (pgs_cons (pg_name (i := 5) sc_RingCrossing_first_rising.nd rfl (.inr rfl)) pgs_nil))))
    (pss_cons (ps_asg (pe_tup (pa_cons (pe_op op_add (pe_fld (pv 0) rfl) (pe_op op_mulW (pv 4) (pv 1))) (pa_cons (pe_op op_sub (pe_op op_sub (pe_op op_add (pe_fld (pv 0) rfl) (pe_op op_mulW (pv 5) (pv 1))) (pv 3)) pe_int) pa_nil))) (pg_tup rfl (pgs_cons (pg_name (i := 6) sc_RingCrossing_first_rising.nd rfl (.inr rfl)) (pgs_cons (pg_name (i := 7) sc_RingCrossing_first_rising.nd rfl (.inr rfl)) pgs_nil))))
    (pss_cons (ps_ndefMS (T := tbl K) (i := 8) (nm := fun _ _ => q1) (st := s_met1) rfl B.r rfl (List.mem_cons_self ..) rfl (hu1 B) nf1 rfl rfl rfl sc_RingCrossing_first_rising.nd rfl (.inl rfl) (.inl rfl))
    (pss_cons (ps_set (i := 9) sc_RingCrossing_first_rising.nd rfl (.inl rfl) (pe_op op_add (pe_op op_sub (pv 2) (pv 1)) pe_int))
    (pss_cons (ps_if (PW.pt (pw_or (pt_cmpR op_lt (pv 9) pe_int (nomark _)) (pw_or1 (pt_not (pt_val (pe_calln (i := 8) (js := [0, 4, 5, 6, 7]) (sp := fun _ _ => spMet1 K) (fun f c => nok1 T q1 _ f c) (fun _ => rfl) (fun ok => Caps.made ok nf1 nr1 rfl) (hr.mono (by decide)) (Nat.le_refl _) pass0 rfl (.inl rfl) (pa_cons (pv 9) pa_nil))))))) (pss_one (ps_ret pe_non)) pss_nil)
    (pss_one (ps_ret (pe_op op_sub (pe_op op_add (pv 1) (pe_callG (i := 0) (js := [0, 4, 5, 6, 7]) (fun f c ws => ok_least_true T (nok1 T q1 _ f c)) (hr.mono (by decide)) T.g_least_true (T.d_least_true.elim fun _ F => F.kp) (fun _ => rfl) (fun ok => Caps.made ok nf1 nr1 rfl) (fun _ _ _ => rfl) (pa_cons pe_int (pa_cons (pv 9) (pa_cons (pv 8) pa_nil))))) pe_int)))))))), ?_⟩
  obtain ⟨a, dx, wait, len, cyc, em, step, start, slope, off, low, high, late, limit, rfl, ha, hcy, hst, zc, zs, zp, zo, zl, zh, zt, hlc, g0, g1, tb, hk⟩ := h
  have FLD : True := trivial
  have zlow : Sz 2100 (slope * low) := zp.times zl
  have zbd : Sz 1001 (slope - step) := zp.sub zs
  have zbl : Sz 2101 ((slope - step) * low) := zbd.times zl
  have zfi : Sz 2200 (off + slope * low) := ((zo.mono (by decide : 1000 ≤ 2100)).add zlow).mono (by decide)
  have zse : Sz 2200 (off + (slope - step) * low - late - 1) := ((((zo.mono (by decide : 1000 ≤ 2101)).add zbl).sub (zt.mono (by decide : 1100 ≤ 2102))).sub (Sz.one 2102)).mono (by decide)
  refine ⟨_, rfl, a, _, dx, _, _, rfl, ha, T.c_RingCrossing, T.a_RingCrossing_slope, rfl, _, rfl, a, _, dx, _, _, rfl, ha, T.c_RingCrossing, T.a_RingCrossing_slope, rfl, _, rfl, a, _, dx, _, _, rfl, ha, T.c_RingCrossing, T.a_RingCrossing_step, rfl, _, _, rfl, rfl, (by show 2 ≤ sizeLine; decide), fun p hp => ⟨p, _, rfl, SqT.of upd_same, rfl, _, _, rfl, _, _, rfl, rfl, ?_⟩⟩
  have e1 := same_new (o := .tup [.int slope, .int (slope - step)]) hp
  refine ⟨_, rfl, a, _, dx, _, _, rfl, e1 _ _ ha, T.c_RingCrossing, T.a_RingCrossing_offset, rfl, _, rfl, _, rfl, _, _, rfl, rfl, zp.mul zl (by decide), _, _, rfl, rfl, _, rfl, a, _, dx, _, _, rfl, e1 _ _ ha, T.c_RingCrossing, T.a_RingCrossing_offset, rfl, _, rfl, _, rfl, _, _, rfl, rfl, zbd.mul zl (by decide), _, _, rfl, rfl, _, rfl, _, _, rfl, rfl, _, _, rfl, rfl, (by show 2 ≤ sizeLine; decide), fun p2 hp2 => ⟨p2, _, rfl, SqT.of upd_same, rfl, _, _, rfl, _, _, rfl, rfl, ?_⟩⟩
  have e2 := e1.trans (same_new (o := .tup [.int (off + slope * low), .int (off + (slope - step) * low - late - 1)]) hp2)
  refine ⟨tabs_same tb e2, fun f c' H3 x3 _ t3 hfn hf hcc => ?_⟩
  have ha3 := x3 _ _ (e2 _ _ ha) (by intro ps z; cases z)
  have ex3 : Ex H H3 := (Off.same e2).trans fun c o q n _ => x3 c o q n
  refine ⟨_, rfl, _, rfl, _, _, rfl, rfl, _, _, rfl, rfl, ?_⟩
  -- the plain law
  have hT := fun n : Nat => PM.rising_met (cyc := cyc) (step := step) (slope := slope) (off := off) (late := late) (low := low) (hi := high) (limit := limit) hcy hst hlc g0 g1 n
  have R := PM.rangeLeast_of (Q := fun m => (off + slope * m) % cyc < late + 1 + step * m) (lo := low) (hi := high) (T := tst1 cyc slope (slope - step) (off + slope * low) (off + (slope - step) * low - late - 1)) fun n hn => by
    have h1 := hT n hn
    unfold tst1
    rw [Int.toNat_natCast]
    exact h1
  refine ⟨_, rfl, _, _, rfl, rfl, _, rfl, ?_⟩
  by_cases hm : high - low + 1 < 1
  · rw [decide_eq_true hm]
    exact hk none H3 ex3 t3 (R.1 hm)
  · rw [decide_eq_false hm]
    have zm : Sz 1200 (high - low + 1) := ((zh.sub zl).add (Sz.one 1100)).mono (by decide)
    refine ⟨f, c', rfl, hf, _, rfl, hf, hcc, a, len, cyc, em, step, start, slope, off, slope, slope - step, off + slope * low, off + (slope - step) * low - late - 1, high - low + 1, rfl, rfl, ⟨dx, wait, ha3⟩, hcy, by omega, zm.mono (by decide), zc.mono (by decide), zp.mono (by decide), zbd.mono (by decide), zfi.mono (by decide), zse.mono (by decide), fun H4 e4 => ⟨_, rfl, ?_⟩⟩
    cases htst : tst1 cyc slope (slope - step) (off + slope * low) (off + (slope - step) * low - late - 1) (high - low + 1) with
    | false => exact hk none H4 (ex3.trans (Off.same e4)) (tabs_same t3 e4) (R.2.1 (by omega) htst)
    | true =>
      refine ⟨_, rfl, _, rfl, _, rfl, f, c', 1, high - low + 1, tst1 cyc slope (slope - step) (off + slope * low) (off + (slope - step) * low - late - 1), rfl, e4 _ _ hf, e4 _ _ hcc, by omega, fun H5 cc Q5 e5 h1 h2 hq => ?_, fun c1 c2 h1 h2 h3 h4 => ?_, htst, fun r H5 e5 r1 r2 r3 r4 => ?_⟩
      · have zcc : Sz 1200 cc := zm.small (by omega)
        exact ⟨a, len, cyc, em, step, start, slope, off, slope, slope - step, off + slope * low, off + (slope - step) * low - late - 1, cc, rfl, rfl, ⟨dx, wait, e5 _ _ (e4 _ _ ha3)⟩, hcy, by omega, zcc.mono (by decide), zc.mono (by decide), zp.mono (by decide), zbd.mono (by decide), zfi.mono (by decide), zse.mono (by decide), hq⟩
      · have k1 := hT c1.toNat (by omega)
        have k2 := hT c2.toNat (by omega)
        obtain ⟨i, hi, hqi⟩ := k1.mp h4
        exact k2.mpr ⟨i, by omega, hqi⟩
      · refine ⟨_, _, rfl, rfl, _, _, rfl, rfl, ?_⟩
        exact hk (some (low + r - 1)) H5 ((ex3.trans (Off.same e4)).trans (Off.same e5)) (tabs_same (tabs_same t3 e4) e5) (R.2.2 r r1 r2 r3 r4)
end PP
end
section
set_option maxHeartbeats 4000000
namespace PP
open PySem PySem.Spec PyProof.Rows L2 PR
variable {P : Program} {w : World} {K : PySem.W.Frag} {mg : Str → Option Value} {base : Heap}

open LamX NdefX
def spSteady (K : PySem.W.Frag) : Sp := fun vs H Q _ => ∃ (a dx : Addr) (wait len cyc : Int) (em : Bool) (step start slope off low high limit : Int), vs = [.ref a, .int low, .int high, .int limit] ∧ H a = some (.ins (He.ga K "RingCrossing") dx (rcF wait len cyc em step start slope off)) ∧
  0 < cyc ∧ Sz 1000 cyc ∧ Sz 1000 slope ∧ Sz 1000 off ∧ Sz 1100 low ∧ Sz 1100 high ∧ 0 ≤ limit ∧ limit ≤ cyc ∧ TabsN (tbl K) H ∧
  ∀ r H', Ex H H' → TabsN (tbl K) H' → PM.RangeLeast (fun m => (off + slope * m) % cyc < limit) low high r → Q (oV r) H'
theorem sc_RingCrossing_first_steady : FnScope ["self", "low", "high", "limit", "first", "is_met", "many"] ["self", "low", "high", "limit"] (defScope s_RingCrossing_first_steady) := ⟨rfl, rfl, rfl, by decide +kernel, rfl, by decide +kernel, by decide +kernel⟩
theorem ok_steady (T : Txt K mg) (B : Tbs K mg base) : Fn P w K mg base 8 (He.ma K (He.ga K "RingCrossing") "first_steady") (spSteady K) := by
  obtain ⟨fd, F⟩ := T.d_RingCrossing_first_steady
  refine okC F sc_RingCrossing_first_steady (fun vs H Q E h => ?_) (fun _ _ _ _ _ _ us hl => match us, hl with | [_, _, _, _], _ => rfl) (fun c hc A outer s H vs Q E hr h => ?_)
  · obtain ⟨a, dx, wait, len, cyc, em, step, start, slope, off, low, high, limit, rfl, _⟩ := h; rfl
  obtain ⟨oc, od, osl, lk, ec⟩ := hc
  have eC : c = (He.cT K pS).1 := (He.codeOf_eq (K := K) (p := pS) lk ec).symm
  subst eC
  refine ⟨_, (pss_cons (ps_set (i := 4) sc_RingCrossing_first_steady.nd rfl (.inr rfl) (pe_op op_add (pe_fld (pv 0) rfl) (pe_op op_mulW (pe_fld (pv 0) rfl) (pv 1))))
    (pss_cons (ps_ndefMS (T := tbl K) (i := 5) (nm := fun _ _ => q2) (st := s_met2) rfl B.s rfl (List.mem_cons_of_mem _ (List.mem_cons_self ..)) rfl (hu2 B) nf2 rfl rfl rfl sc_RingCrossing_first_steady.nd rfl (.inl rfl) (.inl rfl))
    (pss_cons (ps_set (i := 6) sc_RingCrossing_first_steady.nd rfl (.inl rfl) (pe_op op_add (pe_op op_sub (pv 2) (pv 1)) pe_int))
    (pss_cons (ps_if (PW.pt (pw_or (pt_cmpR op_lt (pv 6) pe_int (nomark _)) (pw_or1 (pt_not (pt_val (pe_calln (i := 5) (js := [0, 4, 3]) (sp := fun _ _ => spMet2 K) (fun f c => nok2 T q2 _ f c) (fun _ => rfl) (fun ok => Caps.made ok nf2 nr2 rfl) (hr.mono (by decide)) (Nat.le_refl _) pass0 rfl (.inl rfl) (pa_cons (pv 6) pa_nil))))))) (pss_one (ps_ret pe_non)) pss_nil)
    (pss_one (ps_ret (pe_op op_sub (pe_op op_add (pv 1) (pe_callG (i := 0) (js := [0, 4, 3]) (fun f c ws => ok_least_true T (nok2 T q2 _ f c)) (hr.mono (by decide)) T.g_least_true (T.d_least_true.elim fun _ F => F.kp) (fun _ => rfl) (fun ok => Caps.made ok nf2 nr2 rfl) (fun _ _ _ => rfl) (pa_cons pe_int (pa_cons (pv 6) (pa_cons (pv 5) pa_nil))))) pe_int))))))), ?_⟩
  obtain ⟨a, dx, wait, len, cyc, em, step, start, slope, off, low, high, limit, rfl, ha, hcy, zc, zp, zo, zl, zh, li0, li1, tb, hk⟩ := h
  have zlow : Sz 2100 (slope * low) := zp.times zl
  have zfi : Sz 2200 (off + slope * low) := ((zo.mono (by decide : 1000 ≤ 2100)).add zlow).mono (by decide)
  have zli : Sz 1000 limit := zc.small (by omega)
  refine ⟨_, rfl, a, _, dx, _, _, rfl, ha, T.c_RingCrossing, T.a_RingCrossing_offset, rfl, _, rfl, a, _, dx, _, _, rfl, ha, T.c_RingCrossing, T.a_RingCrossing_slope, rfl, _, rfl, _, _, rfl, rfl, zp.mul zl (by decide), _, _, rfl, rfl, ?_⟩
  refine ⟨tb, fun f c' H3 x3 _ t3 hfn hf hcc => ?_⟩
  have ha3 := x3 _ _ ha (by intro ps z; cases z)
  have ex3 : Ex H H3 := fun c o q n _ => x3 c o q n
  refine ⟨_, rfl, _, rfl, _, _, rfl, rfl, _, _, rfl, rfl, ?_⟩
  have hT := fun n : Nat => PM.steady_met (cyc := cyc) (slope := slope) (off := off) (low := low) (limit := limit) hcy li0 li1 n
  have R := PM.rangeLeast_of (Q := fun m => (off + slope * m) % cyc < limit) (lo := low) (hi := high) (T := tst2 cyc slope (off + slope * low) limit) fun n hn => by
    have h1 := hT n
    unfold tst2
    rw [Int.toNat_natCast]
    exact h1
  refine ⟨_, rfl, _, _, rfl, rfl, _, rfl, ?_⟩
  by_cases hm : high - low + 1 < 1
  · rw [decide_eq_true hm]
    exact hk none H3 ex3 t3 (R.1 hm)
  · rw [decide_eq_false hm]
    have zm : Sz 1200 (high - low + 1) := ((zh.sub zl).add (Sz.one 1100)).mono (by decide)
    refine ⟨f, c', rfl, hf, _, rfl, hf, hcc, a, len, cyc, em, step, start, slope, off, off + slope * low, limit, high - low + 1, rfl, rfl, ⟨dx, wait, ha3⟩, hcy, by omega, zm.mono (by decide), zc.mono (by decide), zp.mono (by decide), zfi.mono (by decide), zli.mono (by decide), fun H4 e4 => ⟨_, rfl, ?_⟩⟩
    cases htst : tst2 cyc slope (off + slope * low) limit (high - low + 1) with
    | false => exact hk none H4 (ex3.trans (Off.same e4)) (tabs_same t3 e4) (R.2.1 (by omega) htst)
    | true =>
      refine ⟨_, rfl, _, rfl, _, rfl, f, c', 1, high - low + 1, tst2 cyc slope (off + slope * low) limit, rfl, e4 _ _ hf, e4 _ _ hcc, by omega, fun H5 cc Q5 e5 h1 h2 hq => ?_, fun c1 c2 h1 h2 h3 h4 => ?_, htst, fun r H5 e5 r1 r2 r3 r4 => ?_⟩
      · have zcc : Sz 1200 cc := zm.small (by omega)
        exact ⟨a, len, cyc, em, step, start, slope, off, off + slope * low, limit, cc, rfl, rfl, ⟨dx, wait, e5 _ _ (e4 _ _ ha3)⟩, hcy, by omega, zcc.mono (by decide), zc.mono (by decide), zp.mono (by decide), zfi.mono (by decide), zli.mono (by decide), hq⟩
      · have k1 := hT c1.toNat
        have k2 := hT c2.toNat
        obtain ⟨i, hi, hqi⟩ := k1.mp h4
        exact k2.mpr ⟨i, by omega, hqi⟩
      · refine ⟨_, _, rfl, rfl, _, _, rfl, rfl, ?_⟩
        exact hk (some (low + r - 1)) H5 ((ex3.trans (Off.same e4)).trans (Off.same e5)) (tabs_same (tabs_same t3 e4) e5) (R.2.2 r r1 r2 r3 r4)
/-! ### RingCrossing.first_block -/
def spRFirst (K : PySem.W.Frag) : Sp := fun vs H Q _ => ∃ (a : Addr) (N d1 x1 s1 d2 x2 s2 : Int) (cnt : Option Int) (e : Bool), vs = [.ref a, oV cnt, .bl e] ∧ RcAt K H a N d1 x1 s1 d2 x2 s2 ∧ (∀ c, cnt = some c → 0 ≤ c ∧ c ≤ N / ((Int.gcd (s2 % N) N : Nat) : Int)) ∧ TabsN (tbl K) H ∧
  ∀ r H', Ex H H' → TabsN (tbl K) H' → PM.IsLeast (PM.PR N (N / ((Int.gcd (s1 % N) N : Nat) : Int)) (N / ((Int.gcd (s2 % N) N : Nat) : Int)) d1 x1 s1 d2 x2 s2 (cnt.getD (N / ((Int.gcd (s2 % N) N : Nat) : Int))) e) r → Q (oV r) H'
theorem sc_RingCrossing_first_block : FnScope ["self", "count", "is_earlier", "limit", "last", "late", "low", "steady", "found"] ["self", "count", "is_earlier"] (defScope s_RingCrossing_first_block) := ⟨rfl, rfl, rfl, by decide +kernel, rfl, by decide +kernel, by decide +kernel⟩
theorem ok_RingCrossing_first_block (T : Txt K mg) (B : Tbs K mg base) : Fn P w K mg base 10 (He.ma K (He.ga K "RingCrossing") "first_block") (spRFirst K) := by
  obtain ⟨fd, F⟩ := T.d_RingCrossing_first_block
  have G_RingCrossing_first_rising := ok_rise (P := P) (w := w) T B
  have G_RingCrossing_first_steady := ok_steady (P := P) (w := w) T B
  have G_ceiling := ok_ceiling (P := P) (w := w) (base := base) T
  refine okR F sc_RingCrossing_first_block (fun vs H Q E h => ?_) (fun _ _ _ _ _ _ us hl => match us, hl with | [_, _, _], _ => rfl) (fun cdv A outer s H vs Q E hr h => ⟨_, (pss_cons (ps_set (i := 3) sc_RingCrossing_first_block.nd rfl (.inl rfl) (pe_ifExp (pt_cmpR op_isN (pv 1) pe_non (nomark _)) (pe_fld (pv 0) rfl) (pv 1)))
    (pss_cons (ps_set (i := 4) sc_RingCrossing_first_block.nd rfl (.inl rfl) (pe_op op_fdivW (pe_op op_sub (pe_op op_sub (pe_fld (pv 0) rfl) pe_int) (pe_fld (pv 0) rfl)) (pe_fld (pv 0) rfl)))
    (pss_cons (ps_if (PW.pt (pw_or (pt_val (pe_fld (pv 0) rfl)) (pw_or (pt_cmpR op_eq (pv 3) pe_int (nomark _)) (pw_or1 (pt_cmpR op_lt (pv 4) pe_int (nomark _)))))) (pss_one (ps_ret pe_non)) pss_nil)
    (pss_cons (ps_set (i := 5) sc_RingCrossing_first_block.nd rfl (.inl rfl) (pe_op op_sub (pe_op op_add (pe_fld (pv 0) rfl) (pe_fld (pv 0) rfl)) (pe_callTy call_int1 (by rfl) T.f_int (by decide +kernel) (pa_cons (pe_not (pv 2)) pa_nil))))
    (pss_cons (ps_set (i := 6) sc_RingCrossing_first_block.nd rfl (.inl rfl) (pe_callB (call_max2 rfl) (by rfl) T.f_max (by decide +kernel) (pa_cons pe_int (pa_cons (pe_callR G_ceiling (hr.mono (by decide)) T.g_ceiling (T.d_ceiling.elim fun _ F => F.kp) (pa_cons (pe_un un_neg (pv 5)) (pa_cons (pe_fld (pv 0) rfl) pa_nil))) pa_nil))))
    (pss_cons (ps_set (i := 7) sc_RingCrossing_first_block.nd rfl (.inl rfl) (pe_callB (call_max2 rfl) (by rfl) T.f_max (by decide +kernel) (pa_cons (pv 6) (pa_cons (pe_callR G_ceiling (hr.mono (by decide)) T.g_ceiling (T.d_ceiling.elim fun _ F => F.kp) (pa_cons (pe_op op_sub (pe_op op_sub (pv 3) pe_int) (pv 5)) (pa_cons (pe_fld (pv 0) rfl) pa_nil))) pa_nil))))
    (pss_cons (ps_set (i := 8) sc_RingCrossing_first_block.nd rfl (.inl rfl) (pe_methR (pv 0) T.c_RingCrossing T.m_RingCrossing_first_rising G_RingCrossing_first_rising (hr.mono (by decide)) pass0 (pa_cons (pv 6) (pa_cons (pe_callB (call_min2 rfl) (by rfl) T.f_min (by decide +kernel) (pa_cons (pe_op op_sub (pv 7) pe_int) (pa_cons (pv 4) pa_nil))) (pa_cons (pv 5) pa_nil)))))
    (pss_cons (ps_if (pt_cmpR op_isN (pv 8) pe_non (nomark _)) (pss_one (ps_set (i := 8) sc_RingCrossing_first_block.nd rfl (.inl rfl) (pe_methR (pv 0) T.c_RingCrossing T.m_RingCrossing_first_steady G_RingCrossing_first_steady (hr.mono (by decide)) pass0 (pa_cons (pv 7) (pa_cons (pv 4) (pa_cons (pv 3) pa_nil)))))) pss_nil)
    (pss_one (ps_ret (pe_ifExp (pt_cmpR op_isN (pv 8) pe_non (nomark _)) pe_non (pe_op op_add (pe_fld (pv 0) rfl) (pe_op op_mulW (pv 8) (pe_fld (pv 0) rfl)))))))))))))), ?_⟩)
  · obtain ⟨a, N, d1, x1, s1, d2, x2, s2, cnt, e, rfl, _⟩ := h; rfl
  obtain ⟨a, N, d1, x1, s1, d2, x2, s2, cnt, e, rfl, ⟨dx, wait, len, cyc, em, step, start, slope, off, ha, hw, hl, hc, ok, zw, zl, zc, zs, zt, zp, zo⟩, hcnt, tb, hk⟩ := h
  rw [← hl, ← hc] at hk
  rw [← hc] at hcnt
  obtain ⟨lim, hlim⟩ : ∃ lim, lim = cnt.getD cyc := ⟨_, rfl⟩
  have l0 : 0 ≤ lim := by
    rw [hlim]
    cases cnt with
    | none => exact Int.le_of_lt ok.c0
    | some c => exact (hcnt c rfl).1
  have l1 : lim ≤ cyc := by
    rw [hlim]
    cases cnt with
    | none => exact Int.le_refl _
    | some c => exact (hcnt c rfl).2
  have key : ∀ R : V → Hp → Prop, R (.int lim) H → tIf (tTest (tOp (fun x y H Q => y = V.non ∧ Q (V.bl (decide (x = V.non))) H) (tVar 1) (tC V.non))) (tFld K (tVar 0) "cycle") (tVar 1) (L2.start ["self", "count", "is_earlier", "limit", "last", "late", "low", "steady", "found"] [.ref a, oV cnt, .bl e]) H R := fun R hR => by
    cases cnt with
    | none =>
      have e1 : lim = cyc := hlim
      rw [e1] at hR
      exact ⟨_, rfl, rfl, _, rfl, _, rfl, a, _, dx, _, _, rfl, ha, T.c_RingCrossing, T.a_RingCrossing_cycle, rfl, hR⟩
    | some c =>
      have e1 : lim = c := hlim
      rw [e1] at hR
      exact ⟨_, rfl, rfl, _, rfl, _, rfl, hR⟩
  refine key _ ?_
  rw [← hlim] at hk
  refine ⟨_, rfl, a, _, dx, _, _, rfl, ha, T.c_RingCrossing, T.a_RingCrossing_length, rfl, _, _, rfl, rfl, _, rfl, a, _, dx, _, _, rfl, ha, T.c_RingCrossing, T.a_RingCrossing_start, rfl, _, _, rfl, rfl, _, rfl, a, _, dx, _, _, rfl, ha, T.c_RingCrossing, T.a_RingCrossing_step, rfl, _, _, rfl, rfl, zs.div ok.pos (by decide), ?_⟩
  obtain ⟨late, hlate⟩ : ∃ late, late = wait + start - (if (!e) = true then 1 else 0) := ⟨_, rfl⟩
  have elate : late = d1 - d2 + start - (if e then 0 else 1) := by
    rw [hlate, hw]
    cases e <;> rfl
  have fin := fun (r1 r2 res : Option Int) => PM.ring_first (n := N) (len := len) (e := e) (r1 := r1) (r2 := r2) (res := res) ok l0 l1 rfl elate rfl rfl
  have zla : Sz 1003 late := by
    rw [hlate]
    exact ((zw.add (zt.mono (by decide : 1000 ≤ 1001))).sub (by cases e <;> first | exact Sz.one 1001 | exact Sz.zero 1002)).mono (by decide)
  refine ⟨_, rfl, a, _, dx, _, _, rfl, ha, T.c_RingCrossing, T.a_RingCrossing_is_empty, rfl, em, rfl, ?_⟩
  cases hem : em with
  | true => exact hk none H (Off.refl _ _) tb (fin none none none (fun _ => rfl) (fun hn => absurd (.inl hem) hn) (fun hn => absurd (.inl hem) hn) (fun hn => absurd (.inl hem) hn))
  | false =>
    refine ⟨_, rfl, rfl, _, rfl, ?_⟩
    by_cases h0 : lim = 0
    · rw [decide_eq_true (congrArg V.int h0)]
      exact hk none H (Off.refl _ _) tb (fin none none none (fun _ => rfl) (fun hn => absurd (.inr (.inl h0)) hn) (fun hn => absurd (.inr (.inl h0)) hn) (fun hn => absurd (.inr (.inl h0)) hn))
    · rw [decide_eq_false (fun z => h0 (V.int.inj z))]
      refine ⟨_, rfl, _, _, rfl, rfl, _, rfl, ?_⟩
      by_cases hla : (len - 1 - start) / step < 0
      · rw [decide_eq_true hla]
        exact hk none H (Off.refl _ _) tb (fin none none none (fun _ => rfl) (fun hn => absurd (.inr (.inr hla)) hn) (fun hn => absurd (.inr (.inr hla)) hn) (fun hn => absurd (.inr (.inr hla)) hn))
      · rw [decide_eq_false hla]
        have nc : ¬ (em = true ∨ lim = 0 ∨ (len - 1 - start) / step < 0) := fun z => by
          rcases z with z | z | z
          · rw [hem] at z; cases z
          · exact h0 z
          · exact hla z
        subst hem
        refine ⟨_, rfl, a, _, dx, _, _, rfl, ha, T.c_RingCrossing, T.a_RingCrossing_wait, rfl, _, rfl, a, _, dx, _, _, rfl, ha, T.c_RingCrossing, T.a_RingCrossing_start, rfl, _, _, rfl, rfl, _, rfl, e, rfl, .inr ⟨_, rfl, _, _, rfl, rfl, ?_⟩⟩
        dsimp only
        rw [← hlate]
        have hst := ok.pos
        have zs4 : Sz 4000 step := zs.mono (by decide)
        have zmax : ∀ {n : Nat} {i j : Int}, Sz n i → Sz n j → Sz n (PM.maxI i j) := fun h1 h2 => by unfold PM.maxI; split <;> assumption
        have zmin : ∀ {n : Nat} {i j : Int}, Sz n i → Sz n j → Sz n (PM.minI i j) := fun h1 h2 => by unfold PM.minI; split <;> assumption
        have zlow : Sz 1010 (PM.maxI 0 (PM.ceilI (-late) step)) := zmax (Sz.zero _) ((zla.mono (by decide : 1003 ≤ 1010)).neg.neg.ediv hst).neg
        have zlim : Sz 1003 lim := (zc.small (by have := ok.c0; omega)).mono (by decide)
        have zll : Sz 1010 (lim - 1 - late) := (((zlim.sub (Sz.one 1002)).mono (by decide : 1004 ≤ 1004)).sub (zla.mono (by decide : 1003 ≤ 1004))).mono (by decide)
        have zste : Sz 1010 (PM.maxI (PM.maxI 0 (PM.ceilI (-late) step)) (PM.ceilI (lim - 1 - late) step)) := zmax zlow (zll.neg.ediv hst).neg
        have zlast : Sz 1010 ((len - 1 - start) / step) := ((((zl.sub (Sz.one 999)).sub (zt.mono (by decide : 1000 ≤ 1001))).mono (by decide : 1002 ≤ 1010)).ediv hst)
        have zhi : Sz 1011 (PM.minI (PM.maxI (PM.maxI 0 (PM.ceilI (-late) step)) (PM.ceilI (lim - 1 - late) step) - 1) ((len - 1 - start) / step)) := zmin (zste.sub (Sz.one 1009)) (zlast.mono (by decide))
        refine ⟨_, rfl, _, rfl, _, rfl, a, _, dx, _, _, rfl, ha, T.c_RingCrossing, T.a_RingCrossing_step, rfl, -late, step, rfl, hst, zs4, _, _, rfl, ?_⟩
        refine ⟨_, rfl, _, rfl, _, _, rfl, rfl, _, rfl, _, _, rfl, rfl, _, rfl, a, _, dx, _, _, rfl, ha, T.c_RingCrossing, T.a_RingCrossing_step, rfl, lim - 1 - late, step, rfl, hst, zs4, _, _, rfl, ?_⟩
        have g0 : ∀ m, PM.maxI 0 (PM.ceilI (-late) step) ≤ m → 0 ≤ late + m * step := fun m hm => by
          have h1 : PM.ceilI (-late) step ≤ m := Int.le_trans (by unfold PM.maxI; split <;> omega) hm
          have := (PM.ceil_le hst).mp h1
          omega
        have g1 : ∀ m, PM.maxI 0 (PM.ceilI (-late) step) ≤ m → m ≤ PM.minI (PM.maxI (PM.maxI 0 (PM.ceilI (-late) step)) (PM.ceilI (lim - 1 - late) step) - 1) ((len - 1 - start) / step) → late + m * step < lim - 1 := fun m h1 h2 => by
          have h3 : m ≤ PM.maxI (PM.maxI 0 (PM.ceilI (-late) step)) (PM.ceilI (lim - 1 - late) step) - 1 := Int.le_trans h2 (by unfold PM.minI; split <;> omega)
          have h4 : ¬ PM.ceilI (lim - 1 - late) step ≤ m := fun z => by
            unfold PM.maxI at h1 h3
            split at h3 <;> omega
          have h5 : ¬ (lim - 1 - late ≤ m * step) := fun z => h4 ((PM.ceil_le hst).mpr z)
          omega
        refine ⟨_, rfl, a, dx, _, rfl, ha, rfl, _, rfl, _, rfl, _, _, rfl, rfl, _, rfl, _, _, rfl, _, rfl, a, dx, wait, len, cyc, false, step, start, slope, off, PM.maxI 0 (PM.ceilI (-late) step), PM.minI (PM.maxI (PM.maxI 0 (PM.ceilI (-late) step)) (PM.ceilI (lim - 1 - late) step) - 1) ((len - 1 - start) / step), late, lim, rfl, ha, ok.c0, hst, zc, zs, zp, zo, zlow.mono (by decide), zhi.mono (by decide), zla.mono (by decide), l1, g0, g1, tb, fun r1 H2 x2 t2 R1 => ?_⟩
        have ha2 := x2 _ _ ha (by intro ps z; cases z) id
        refine ⟨_, rfl, rfl, _, rfl, ?_⟩
        cases r1 with
        | some m1 =>
          have zm1 : Sz 1012 m1 := (zhi.add (zlow.mono (by decide : 1010 ≤ 1011))).small (by
            have r10 := R1.1
            have r11 := R1.2.1
            have : 0 ≤ PM.maxI 0 (PM.ceilI (-late) step) := by unfold PM.maxI; split <;> omega
            omega)
          refine ⟨_, rfl, rfl, _, rfl, _, rfl, a, _, dx, _, _, rfl, ha2, T.c_RingCrossing, T.a_RingCrossing_start, rfl, _, rfl, _, rfl, a, _, dx, _, _, rfl, ha2, T.c_RingCrossing, T.a_RingCrossing_step, rfl, _, _, rfl, rfl, zm1.mul zs (by decide), _, _, rfl, rfl, ?_⟩
          exact hk (some (start + m1 * step)) H2 x2 t2 (fin (some m1) none (some (start + m1 * step)) (fun z => absurd z nc) (fun _ => R1) (fun _ z => by cases z) (fun _ => rfl))
        | none =>
          refine ⟨_, rfl, a, dx, _, rfl, ha2, rfl, _, rfl, _, rfl, _, rfl, a, dx, wait, len, cyc, false, step, start, slope, off, PM.maxI (PM.maxI 0 (PM.ceilI (-late) step)) (PM.ceilI (lim - 1 - late) step), (len - 1 - start) / step, lim, rfl, ha2, ok.c0, zc, zp, zo, zste.mono (by decide), zlast.mono (by decide), l0, l1, t2, fun r2 H3 x3 t3 R2 => ?_⟩
          have ha3 := x3 _ _ ha2 (by intro ps z; cases z) id
          refine ⟨_, rfl, rfl, _, rfl, ?_⟩
          cases r2 with
          | none => exact hk none H3 (x2.trans x3) t3 (fin none none none (fun _ => rfl) (fun _ => R1) (fun _ _ => R2) (fun _ => rfl))
          | some m2 =>
            have zm2 : Sz 1011 m2 := (zlast.add zste).small (by
              have r10 := R2.1
              have r11 := R2.2.1
              have : 0 ≤ PM.maxI (PM.maxI 0 (PM.ceilI (-late) step)) (PM.ceilI (lim - 1 - late) step) := by unfold PM.maxI; split <;> split <;> omega
              omega)
            refine ⟨_, rfl, a, _, dx, _, _, rfl, ha3, T.c_RingCrossing, T.a_RingCrossing_start, rfl, _, rfl, _, rfl, a, _, dx, _, _, rfl, ha3, T.c_RingCrossing, T.a_RingCrossing_step, rfl, _, _, rfl, rfl, zm2.mul zs (by decide), _, _, rfl, rfl, ?_⟩
            exact hk (some (start + m2 * step)) H3 (x2.trans x3) t3 (fin none (some m2) (some (start + m2 * step)) (fun z => absurd z nc) (fun _ => R1) (fun _ _ => R2) (fun _ => rfl))
end PP
end
section
set_option maxHeartbeats 4000000
namespace PP
open PySem PySem.Spec PyProof.Rows L2 PR
variable {P : Program} {w : World} {K : PySem.W.Frag} {mg : Str → Option Value} {base : Heap}

open LamX NdefX
/-! ### the ring's blocks -/
noncomputable def rKd (K : PySem.W.Frag) (ps : List PT) (N : Int) : Kd where
  C := He.ga K "RingBlocks"
  CC := He.ga K "RingCrossing"
  ar := some N
  CA := fun H x p q => ∃ P1 P2, ps[p]? = some P1 ∧ ps[q]? = some P2 ∧ RcAt K H x N P1.day P1.post P1.str P2.day P2.post P2.str
  fb := PM.fbR N (dayOf ps) (postOf ps) (strOf ps)
  lok := fun p c => 0 ≤ c ∧ c ≤ PM.cyc N (strOf ps) p
theorem RcAt.fx {H H' : Hp} {a : Addr} {N d1 x1 s1 d2 x2 s2 : Int} (e : Fx H H') (h : RcAt K H a N d1 x1 s1 d2 x2 s2) : RcAt K H' a N d1 x1 s1 d2 x2 s2 := by
  obtain ⟨dx, wait, len, cyc, em, step, start, slope, off, h1, h2⟩ := h
  exact ⟨dx, wait, len, cyc, em, step, start, slope, off, e _ _ h1 trivial, h2⟩
theorem sc_RingBlocks_crossing : FnScope ["self", "painter", "other"] ["self", "painter", "other"] (defScope s_RingBlocks_crossing) := ⟨rfl, rfl, rfl, by decide +kernel, rfl, by decide +kernel, by decide +kernel⟩
theorem ok_RingBlocks_crossing (T : Txt K mg) (ps : List PT) {N : Int} (hN : 0 < N) (zN : Sz 1000 N) : Fn P w K mg base 4 (He.ma K (He.ga K "RingBlocks") "crossing") (spCross (rKd K ps N) K ps) := by
  obtain ⟨fd, F⟩ := T.d_RingBlocks_crossing
  have G_RingCrossing_init := ok_RingCrossing_init (P := P) (w := w) (base := base) T
  have G_Painter_way := ok_Painter_way (P := P) (w := w) (base := base) T
  refine okR F sc_RingBlocks_crossing (fun vs H Q E h => ?_) (fun _ _ _ _ _ _ us hl => match us, hl with | [_, _, _], _ => rfl) (fun cdv A outer s H vs Q E hr h => ⟨_, (pss_one (ps_ret (StX.pe_makeR T.k_RingCrossing G_RingCrossing_init (hr.mono (by decide)) (by rfl) T.g_RingCrossing pass0 (pa_cons (pe_fld (pv 0) rfl) (pa_cons (pe_propR (pv 1) T.c_Painter T.p_Painter_way G_Painter_way (hr.mono (by decide))) (pa_cons (pe_propR (pv 2) T.c_Painter T.p_Painter_way G_Painter_way (hr.mono (by decide))) pa_nil)))))), ?_⟩)
  · obtain ⟨b, dx, pt, lm, fr, cr, pa, qa, p, q, P1, P2, rfl, _⟩ := h; rfl
  · obtain ⟨b, dx, pt, lm, fr, cr, pa, qa, p, q, P1, P2, rfl, hb, h1, h2, hne, hp1, hp2, hk⟩ := h
    obtain ⟨d1, t1, a1, a2, w1⟩ := id hp1
    refine ⟨_, rfl, b, _, dx, _, _, rfl, hb, T.c_RingBlocks, T.a_RingBlocks_around, rfl, _, rfl, pa, d1, _, rfl, a1, pa, P1, rfl, hp1, fun t H1 e1 ht => ?_⟩
    have hp2' : PaintAt K H1 qa P2 := hp2.fx (Fx.same e1)
    obtain ⟨d2, t2, c1, c2, w2⟩ := id hp2'
    refine ⟨_, rfl, qa, d2, _, rfl, c1, qa, P2, rfl, hp2', fun u H2 e2 hu => ?_⟩
    intro x dx hx hdx hne2
    refine ⟨x, dx, t, u, N, _, _, _, _, _, _, rfl, upd_same, ?_, ?_, w1, w2, hN, zN, fun H3 b3 hC => ⟨rfl, hk x H3 ?_ ?_ ⟨P1, P2, h1, h2, hC⟩⟩⟩
    · exact same_sqT ((same_new hdx).trans (same_new ((upd_ne hne2.symm).trans hx))) (same_sqT e2 ht)
    · exact same_sqT ((same_new hdx).trans (same_new ((upd_ne hne2.symm).trans hx))) hu
    · have e3 := e1.trans e2
      exact fun c o h => b3 c o ((same_new ((upd_ne hne2.symm).trans hx)) c o (same_new hdx c o (e3 c o h))) (ne_of_none (e3 c o h) hx)
    · exact (e1.trans e2).free hx
theorem ok_rKd {ps : List PT} {N : Int} (T : Txt K mg) (B : Tbs K mg base) (hN : 0 < N) (zN : Sz 1000 N) : KindOk P w K mg base (tbl K) (rKd K ps N) ps 10 := by
  refine ⟨T.c_RingBlocks, T.a_RingBlocks_walkers, T.a_RingBlocks_limits, T.a_RingBlocks_firsts, T.a_RingBlocks_crossings, T.m_RingBlocks_crossing, T.m_RingBlocks_look, T.m_RingBlocks_first_of, T.m_RingBlocks_next_stop, T.m_RingBlocks_settle, T.d_RingBlocks_look, T.d_RingBlocks_first_of, T.d_RingBlocks_next_stop, T.d_RingBlocks_settle, T.d_RingBlocks_all_stops,
    T.c_RingCrossing, T.m_RingCrossing_first_block, fun H x p q ⟨P1, P2, _, _, dx, _, _, _, _, _, _, _, _, h, _⟩ => ⟨dx, _, h, rfl⟩, fun H H' x p q e ⟨P1, P2, h1, h2, h3⟩ => ⟨P1, P2, h1, h2, h3.fx e⟩, fun p q c k hp hq _ _ h => PM.ring_le h, (ok_RingBlocks_crossing T ps hN zN).mono (by decide), (ok_RingCrossing_first_block T B).imp fun vs H Q E h => ?_⟩
  obtain ⟨x, p, q, c, rfl, ⟨P1, P2, h1, h2, h3⟩, hp, hq, hne, hc, tb, hk⟩ := h
  have e1 : decide ((q : Int) < (p : Int)) = decide (q < p) := by rw [decide_eq_decide]; omega
  obtain ⟨a1, a2, a3⟩ := of_at h1
  obtain ⟨b1, b2, b3⟩ := of_at h2
  refine ⟨x, _, _, _, _, _, _, _, c, _, rfl, h3, fun v hv => ?_, tb, fun r H' e t' hr => ?_⟩
  · have := hc v hv
    have hq2 : PM.cyc N (strOf ps) q = N / ((Int.gcd (P2.str % N) N : Nat) : Int) := by unfold PM.cyc; rw [b3]
    have : 0 ≤ v ∧ v ≤ PM.cyc N (strOf ps) q := this
    rw [← hq2]
    exact this
  · rw [e1] at hr
    have e2 : (rKd K ps N).fb p q c = r := by
      show PM.least (PM.PR N (PM.cyc N (strOf ps) p) (PM.cyc N (strOf ps) q) (dayOf ps p) (postOf ps p) (strOf ps p) (dayOf ps q) (postOf ps q) (strOf ps q) (c.getD (PM.cyc N (strOf ps) q)) (decide (q < p))) = r
      unfold PM.cyc
      rw [a1, a2, a3, b1, b2, b3]
      exact (PM.least_eq hr).symm
    rw [← e2]
    exact hk H' e t'
end PP
end
section
set_option maxHeartbeats 4000000
namespace PP
open PySem PySem.Spec PyProof.Rows L2 PR
variable {P : Program} {w : World} {K : PySem.W.Frag} {mg : Str → Option Value} {base : Heap}

open LamX NdefX
/-! ### RingBlocks.__init__ -/
def mR (kd : Kd) (ps : List PT) (N : Int) (i : Nat) : Ms := fun p q => if p = q ∧ p < i then some (PM.cyc N (strOf ps) p) else mij kd ps.length ps.length 0 p q
theorem mR_zero {kd : Kd} {ps : List PT} {N : Int} : mR kd ps N 0 = mij kd ps.length ps.length 0 := by
  funext p q
  exact if_neg (fun z => Nat.not_lt_zero _ z.2)
theorem mR_step {kd : Kd} {ps : List PT} {N : Int} {i : Nat} : setMM (mR kd ps N i) i i (some (PM.cyc N (strOf ps) i)) = mR kd ps N (i + 1) := by
  funext p q
  unfold setMM
  by_cases hp : p = i
  · rw [if_pos hp]
    unfold setM
    by_cases hq : q = i
    · rw [if_pos hq]
      unfold mR
      rw [if_pos ⟨hp.trans hq.symm, by omega⟩, hp]
    · rw [if_neg hq]
      unfold mR
      rw [if_neg (fun z => hq (by omega)), if_neg (fun z => hq (by omega)), hp]
  · rw [if_neg hp]
    unfold mR
    by_cases hq : p = q ∧ p < i
    · rw [if_pos hq, if_pos ⟨hq.1, by omega⟩]
    · rw [if_neg hq, if_neg (fun z => hq ⟨z.1, by omega⟩)]
def spRI (K : PySem.W.Frag) (ps : List PT) (N : Int) : Sp := fun vs H Q _ => ∃ (b dx pt : Addr) (pas : List Addr), vs = [.ref b, .int N, .ref pt] ∧ H b = some (.ins (He.ga K "RingBlocks") dx []) ∧ SqT K H pt (pas.map V.ref) ∧ Paired (PaintAt K H) pas ps ∧ ps.length ≤ 8 ∧ TabsN (tbl K) H ∧
  ∀ H' st, st.b = b → Off (fun c => c = b) H H' → TabsN (tbl K) H' → (∀ c, st.S c → H c = none) → BkAt (rKd K ps N) K H' st ps (fun _ => none) (mR (rKd K ps N) ps N ps.length) (Dij ps.length ps.length 0) 1000 → Q .non H'
/-- what the head tells of it -/
def InitR (P : Program) (K : PySem.W.Frag) : Prop := ∃ (oc : Value) (od : Option Addr) (kV doc pm : Value) (an : Option Addr) (cda : Addr) (ct : Value) (osl : Array (Option Value)) (cc : Addr) (ar : Arg),
  K.lookup (He.ma K (He.ga K "RingBlocks") "__init__") = some ⟨oc, od, .func (PySem.W.ksFn "__init__" "RingBlocks.__init__" (defArgs s_RingBlocks_init) (defBody s_RingBlocks_init) (defScope s_RingBlocks_init) .none kV doc pm an (.ref cda) ct cc), osl⟩ ∧
  PySem.W.codeIn K (.ref cda) "RingBlocks.__init__" = true ∧ ar.arg = "self" ∧ SupF P K (He.ga K "RingBlocks") (He.ma K (He.ga K "RingBlocks") "__init__") (He.ma K (He.ga K "Blocks") "__init__") cc cda ar "__init__"
abbrev rbF (cda cc : Addr) : NF := ⟨"__init__", "RingBlocks.__init__", defArgs s_RingBlocks_init, defBody s_RingBlocks_init, defScope s_RingBlocks_init, [("__class__", cc)], cda⟩
abbrev rbN : List Str := ["self", "size", "painters", "__class__", "place", "painter"]
theorem sc_rb : NScope rbN ["self", "size", "painters"] ["__class__"] (defScope s_RingBlocks_init) := nscope_by (by decide +kernel)
abbrev rbX (P : Program) (w : World) (K : PySem.W.Frag) (mg : Str → Option Value) (base : Heap) (cda cc f : Addr) (A : Around) (outer : List Env) (s : Shared) (H : Hp) : Cx := (ncx CX0 P w K mg base rbN (rbF cda cc) f A outer s H E0).nox
/-- a statement at the very frame's code -/
def PSat (X : Cx) (body : List Stmt) (st : Stmt) (t : TS) : Prop := ∀ (pins : List (Addr × Obj)) (s : Shared) (σ : L2.St) (H : Hp) (D : Ends), Inv X pins σ H s → t D σ H → _root_.PySem.wpAt (model X.prog X.w) X.A (.func body X.env) (exec st X.env) (SP X pins D) X.xe s
theorem at_three {X : Cx} {body : List Stmt} {a b c : Stmt} {ta tb tc : TS} (h1 : PS X a ta) (h2 : PSat X body b tb) (h3 : PS X c tc) {pins : List (Addr × Obj)} {s : Shared} {σ : L2.St} {H : Hp} {D : Ends} (I : Inv X pins σ H s) (h : tSeq ta (tSeq tb tc) D σ H) :
    _root_.PySem.wpAt (model X.prog X.w) X.A (.func body X.env) (execs [a, b, c] X.env) (SP X pins D) X.xe s := by
  refine ks_wpAt_execs_cons (PySem.wpAt_of_wpAny (thn (h1.run pins s σ H { D with nx := fun σ1 H1 => tSeq tb tc D σ1 H1 } I h) fun f s1 q => ?_))
  cases f with
  | next =>
    obtain ⟨σ1, H1, I1, q⟩ := q
    refine ks_wpAt_execs_cons (ks_wpAt_mono (h2 pins s1 σ1 H1 { D with nx := fun σ2 H2 => tc D σ2 H2 } I1 q) (fun f s2 q => ?_) fun _ _ z => z)
    cases f with
    | next =>
      obtain ⟨σ2, H2, I2, q⟩ := q
      exact PySem.wpAt_of_wpAny ((pss_one h3).run pins s2 σ2 H2 D I2 q)
    | ret v => exact q
    | brk => exact q
    | cont => exact q
  | ret v => exact q
  | brk => exact q
  | cont => exact q
def tSuper (C g : Addr) (ta : TA) (sp : Sp) : TS := fun D σ H => ∃ b dx fs, σ[0]? = some (some (.ref b)) ∧ H b = some (.ins C dx fs) ∧ ∀ q, H q = none → ta σ (upd H q (.met g b)) fun vs H2 => H2 q = some (.met g b) ∧ sp (.ref b :: vs) H2 (fun _ H3 => D.nx σ H3) E0
theorem ps_super {X : Cx} {C f g cc cda : Addr} {ar : Arg} {m : Str} {k : Nat} {sp : Sp} {e : Expr} {es : List Expr} {t : TA} {body : List Stmt} {p0 p1 apos pos pos2 : Pos} (S : SupF X.prog X.K C f g cc cda ar m) (F : Fn X.prog X.w X.K X.mg X.base k g sp) (hr : Room k X.A) (ha : PA X (e :: es) t)
    (hfu : X.env.func = some f) (hco : X.env.code = .ref cda) (hcc : X.env.cells.lookup ("__class__" : Str) = some cc) (hms : X.mg "super" = none) (hself : X.N[0]? = some ar.arg) (hloc : X.env.kindOf ar.arg = some .local) (hint : interactive X.env = false)
    (hat : (m == ("__class__" : Str)) = false := by decide) (hks : X.env.kindOf "super" = some .globalImplicit := by rfl) (hkc : X.env.kindOf "__class__" = some .free := by rfl)
    (hst : starEach (e :: es) X.env = (false, eval e X.env) :: starEach es X.env := by rfl) (hpl : (backTo pos (starEach es X.env)).any (·.1) = false := by rfl) (hform : methodCallForm ((e :: es).length + ([] : List Keyword).length) (backTo pos (starEach (e :: es) X.env)) (backToKw pos (keywordEach [] X.env)) = true := by rfl) (hline : (apos.endLine == pos.line) = true := by rfl)
    (hs : swapsWith (.Call (.Attribute (.Call (.Name "super" p0) [] [] p1) m apos) (e :: es) [] pos) none pos2.line X.env = pure false := by rfl) :
    PSat X body (.Expr (.Call (.Attribute (.Call (.Name "super" p0) [] [] p1) m apos) (e :: es) [] pos) pos2) (tSuper C g t sp) := by
  intro pins s σ H D I ⟨b, dx, fs, hσ, hb, hq⟩
  refine ks_wpAt_Expr_any (ks_wpAt_mono (wp_super (Q := fun _ H3 => D.nx σ H3) I S hat hfu hco hks hkc hcc hms hself hloc hσ hb F hr ha hst hpl hform hline hq) (fun v s' ⟨x, H1, I1, _, q⟩ => ⟨σ, H1, I1, q⟩) fun _ _ z => z) hint hs
theorem sc_RingBlocks_init : rbN.Nodup ∧ True := ⟨sc_rb.nd, trivial⟩
theorem ok_RingBlocks_init {ps : List PT} {N : Int} (T : Txt K mg) (B : Tbs K mg base) (S : InitR P K) (hN : 0 < N) (zN : Sz 1000 N) : Fn P w K mg base 13 (He.ma K (He.ga K "RingBlocks") "__init__") (spRI K ps N) := by
  obtain ⟨oc, od, kV, doc, pm, an, cda, ct, osl, cc, ar, lk, hcd, har, SF⟩ := S
  have O := ok_rKd (P := P) (w := w) (ps := ps) T B hN zN
  have G_init := ok_Blocks_init T O
  have G_greatest_divisor := ok_greatest_divisor (P := P) (w := w) (base := base) T
  have G_Painter_stride := ok_Painter_stride (P := P) (w := w) (base := base) T
  intro A outer s H us vs Q E hr0 e0 r hsp
  have KX : K.In s.heap := e0.mod.kin.keeps fun b o e => (e0.bs b o e).1
  have lim : s.heap.NoLimit := e0.mod.nolimit.keeps fun b o e => (e0.bs b o e).1
  obtain ⟨b, dx, pt, pas, rfl, hb, hw, hpp, h8, tb, hk⟩ := hsp
  have hul : us.length = 3 := r.length.symm
  obtain ⟨u1, u2, u3, rfl⟩ : ∃ u1 u2 u3, us = [u1, u2, u3] := by
    match us, hul with
    | [u1, u2, u3], _ => exact ⟨u1, u2, u3, rfl⟩
  have hb2 : BindsTo s (PySem.W.ksFn "__init__" "RingBlocks.__init__" (defArgs s_RingBlocks_init) (defBody s_RingBlocks_init) (defScope s_RingBlocks_init) .none kV doc pm an (.ref cda) ct cc) ⟨[u1, u2, u3], []⟩ ((["self", "size", "painters"] : List Str).zip [u1, u2, u3]) := by
    have z : bindArgs (PySem.W.ksFn "__init__" "RingBlocks.__init__" (defArgs s_RingBlocks_init) (defBody s_RingBlocks_init) (defScope s_RingBlocks_init) .none kV doc pm an (.ref cda) ct cc) ⟨[u1, u2, u3], []⟩ = pure ((["self", "size", "painters"] : List Str).zip [u1, u2, u3]) := rfl
    intro M A Q E h
    rw [z]
    exact wpAny_pure h
  refine codeAny_call_function hr0.depth (KX _ _ lk) rfl sc_rb.co sc_rb.gen rfl (PySem.W.codeRec_of KX hcd) (hb2 _ _ _ _ ?_)
  refine wpAny_newFunctionEnv sc_rb.nocell (fun ⟨n, _⟩ hy => sc_rb.par n (List.of_mem_zip hy).1) (fun h₁ hns hsb => ⟨lim.fresh _ hsb, ?_⟩) sc_rb.kind
  show codeAny _ _ (.func (defBody s_RingBlocks_init) (envF (rbF cda cc) (He.ma K (He.ga K "RingBlocks") "__init__") s.heap.objs.size)) _ _
  have kp : ∀ b o, s.heap.get? b = some o → h₁.get? b = some o := fun b o e => hsb.extBut b o (Nat.ne_of_lt (Heap.lt_size e)) (Heap.get?_push_of_some _ e)
  obtain ⟨ocl, lcl, hcl⟩ := SF.cell
  have C : CellsAt (rbF cda cc).cl ["__class__"] [none] s.heap H := by
    have one : ∀ y c, ([(("__class__" : Str), cc)] : List (Str × Addr)).lookup y = some c → y = "__class__" ∧ c = cc := fun y c e => by
      have hm := PySem.mem_of_lookup e
      rcases List.mem_singleton.mp hm with z
      cases z; exact ⟨rfl, rfl⟩
    refine ⟨rfl, fun y c e => ?_, fun x y c h1 h2 => ?_, fun i y hi => ?_⟩
    · obtain ⟨_, rfl⟩ := one y c e
      exact ⟨(e0.bs _ _ (e0.mod.kin _ _ lcl)).2, _, ocl, KX _ _ lcl, hcl⟩
    · rw [(one x c h1).1, (one y c h2).1]
    · match i, hi with
      | 0, hi => cases hi; exact ⟨cc, rfl, fun v z => by cases z⟩
  have I0 : Inv (ncx CX0 P w K mg base rbN (rbF cda cc) (He.ma K (He.ga K "RingBlocks") "__init__") A outer s H E) [] (startF rbN [.ref b, .int N, .ref pt] [none]) H { s with heap := h₁, toks := s.toks + ((["self", "size", "painters"] : List Str).zip [u1, u2, u3]).length } := inv_startN sc_rb hr0.hd e0 rfl r C hns kp
  have hr : Room 12 (rbX P w K mg base cda cc (He.ma K (He.ga K "RingBlocks") "__init__") A outer s H).A := hr0.deeper _
  refine ks_codeAny_funcAt (ks_wpAt_mono (at_three (X := rbX P w K mg base cda cc (He.ma K (He.ga K "RingBlocks") "__init__") A outer s H) (D := ⟨fun _ H' => Q .non H', Q, fun _ _ => False, fun _ _ => False⟩) (ps_fld (pv 0) (pv 1) rfl) (ps_super SF G_init hr (pa_cons (pv 2) pa_nil) rfl rfl rfl T.f_super (by rw [har]; rfl) (by rw [har]; rfl) rfl)
    (ps_for PassesOwn.never rfl (pi_enumT (by rfl) T.f_enumerate (pa_cons (pv 2) pa_nil)) (pg_tup rfl (pgs_cons (pg_name (i := 4) sc_RingBlocks_init.1 rfl (.inl rfl)) (pgs_cons (pg_name (i := 5) sc_RingBlocks_init.1 rfl (.inl rfl)) pgs_nil))) (pss_one (ps_dput (hu_of hr) (pe_ix ix_list (pe_fld (pv 0) rfl) (pv 4) (fun _ _ => rfl)) (pv 4) (pe_op op_fdivW (pv 1) (pe_callR G_greatest_divisor (hr.mono (by decide)) T.g_greatest_divisor (T.d_greatest_divisor.elim fun _ F => F.kp) (pa_cons (pe_op op_mod (pe_propR (pv 5) T.c_Painter T.p_Painter_stride G_Painter_stride (hr.mono (by decide))) (pv 1)) (pa_cons (pv 1) pa_nil)))) rfl))) (I0.unwish.wish _) ?_) (fun f s' q => ?_) fun _ _ z => z.elim)
  · -- self.around
    have sqb : ∀ {H1 : Hp} {a : Addr} {xs : List V}, Off (fun c => c = b) H H1 → SqT K H a xs → SqT K H1 a xs := fun {H1 a xs} o h => by
      rcases h with (h | ⟨u, h⟩) | h
      · exact .inl (.inl (o _ _ h (by intro ps z; cases z) (ne_of h hb (by intro z; cases z))))
      · exact .inl (.inr ⟨u, o _ _ h (by intro ps z; cases z) (ne_of h hb (by intro z; cases z))⟩)
      · exact .inr h
    have ppb : ∀ {H1 : Hp}, Off (fun c => c = b) H H1 → Paired (PaintAt K H1) pas ps := fun {H1} o => pr_imp hpp fun pa P0 ⟨d, t, e, h2, h3⟩ => ⟨d, t, o _ _ e (by intro ps z; cases z) (fun z => by
      rw [z, hb] at e
      have e2 := Option.some.inj e
      injection e2 with _ _ e3
      cases e3), sqb o h2, h3⟩
    have hn : (pas.map V.ref).length = ps.length := by rw [List.length_map, Paired.length hpp]
    refine ⟨_, rfl, _, rfl, b, He.ga K "RingBlocks", dx, _, rfl, hb, T.c_RingBlocks, T.a_RingBlocks_around, (by decide : (0 : Nat) < 1000), ?_⟩
    have u1 : Off (fun c => c = b) H (upd H b (.ins (He.ga K "RingBlocks") dx (preF (some N)))) := (But.of (Same.refl H)).upd.off
    have t1 : TabsN (tbl K) (upd H b (.ins (He.ga K "RingBlocks") dx (preF (some N)))) := tabs_upd tb fun u e => by
      rw [hb] at e; cases e
      exact ⟨(by intro ps z; cases z), fun c q z => codeO_kind.1 (by rw [← z]; trivial)⟩
    -- super().__init__
    refine ⟨b, dx, _, rfl, upd_same, fun q hq => ⟨_, rfl, upd_same, ?_⟩⟩
    have hq : (upd H b (.ins (He.ga K "RingBlocks") dx (preF (some N)))) q = none := hq
    have hqb : b ≠ q := fun z => by rw [← z, upd_same] at hq; cases hq
    have u2 := u1.trans (Off.same (S := fun c => c = b) (same_new (o := .met (He.ma K (He.ga K "Blocks") "__init__") b) hq))
    have t2 := tabs_new (o := .met (He.ma K (He.ga K "Blocks") "__init__") b) t1 hq
    refine ⟨b, dx, pt, pas, rfl, (upd_ne hqb).trans upd_same, sqb u2 hw, ppb u2, h8, t2, fun H3 st sb o3 t3 fr3 BK => ?_⟩
    have u3 := u2.trans o3
    have fr : ∀ c, st.S c → H c = none := fun c hc => by
      have := fr3 c hc
      have hcq : c ≠ q := fun z => by rw [z, upd_same] at this; cases this
      rw [upd_ne hcq] at this
      have hcb : c ≠ b := fun z => by rw [z, upd_same] at this; cases this
      rw [upd_ne hcb] at this
      exact this
    -- the own cycles
    refine ⟨_, rfl, pt, _, rfl, sqb u3 hw, ?_⟩
    rw [← mR_zero (N := N)] at BK
    refine for_it walk_enumT (fun i σ H' => Off (fun c => c = b) H H' ∧ TabsN (tbl K) H' ∧ BkAt (rKd K ps N) K H' st ps (fun _ => none) (mR (rKd K ps N) ps N i) (Dij ps.length ps.length 0) 1000 ∧ ∃ (z1 z2 : Option V), σ = [some (.ref b), some (.int N), some (.ref pt), none, z1, z2])
      ⟨u3, t3, BK, _, _, rfl⟩ (fun i σ H' _ ⟨o, _⟩ => sqb o hw) (fun i x σ Hc H' hi ⟨oS, tS, BS, z1, z2, eσ⟩ y => ?_) (fun σ H' ⟨oS, tS, BS, z1, z2, eσ⟩ => ?_)
    · subst eσ
      rw [hn] at hi
      obtain ⟨Tt, kx, vx, rfl, hTn, rfl, hk1, hv⟩ := y
      cases hk1
      dsimp only at hv
      rw [List.getElem?_map] at hv
      obtain ⟨pa, hpa, e1⟩ := Option.map_eq_some_iff.mp hv
      subst e1
      obtain ⟨P1, hP1, hPA1⟩ := PR.paired_get (ppb oS) hpa
      have eT : Ex Hc (upd Hc Tt (.tup [.int (i : Int), .ref pa])) := Off.same (same_new hTn)
      have hPA := hPA1.fx eT.fx
      obtain ⟨d1, t1, a1, a2, w1⟩ := id hPA
      have BT := BS.off O eT
      refine ⟨Tt, _, rfl, SqT.of upd_same, rfl, _, _, rfl, _, _, rfl, rfl, ?_⟩
      have g0 : 0 < ((Int.gcd (P1.str % N) N : Nat) : Int) := PM.gcd_pos_r (by omega)
      have zg : Sz 1000 ((Int.gcd (P1.str % N) N : Nat) : Int) := zN.small (by
        have := Int.le_of_dvd hN (Int.gcd_dvd_right (P1.str % N) N)
        omega)
      refine ⟨_, rfl, _, rfl, pa, d1, _, rfl, a1, pa, P1, rfl, hPA, _, rfl, _, _, rfl, rfl, hN, _, rfl, _, _, rfl, _, _, rfl, rfl, zg.div g0 (by decide), ?_⟩
      have hc : PM.cyc N (strOf ps) i = N / ((Int.gcd (P1.str % N) N : Nat) : Int) := by unfold PM.cyc; rw [(of_at hP1).2.2]
      dsimp only
      rw [← hc]
      obtain ⟨f, hf⟩ : ∃ f, st.fas[i]? = some f := ⟨_, List.getElem?_eq_getElem (by rw [BT.fl]; exact hi)⟩
      obtain ⟨es, hfd, hes⟩ := BT.fd i f hf
      have hfv : (st.fas.map V.ref)[i]? = some (.ref f) := by rw [List.getElem?_map, hf]; rfl
      have hS : st.S f := .inr (.inr (List.mem_of_getElem? hf))
      refine ⟨_, rfl, b, _, st.dx, _, _, rfl, sb ▸ BT.b, T.c_RingBlocks, T.a_RingBlocks_firsts, bk_lk.2.2.1, _, rfl, st.fr, _, _, _, rfl, rfl, .inl (.inl BT.fr), atI_nat hfv, _, rfl, f, _, rfl, DPut.k (k := .inl (i : Int)) hfd ?_, ?_⟩
      · rw [len_dc]
        exact Nat.lt_of_le_of_lt (Nat.le_trans hes.len BT.n8) (by decide)
      · rw [put_dc, ← mR_step]
        refine ⟨(oS.trans eT.ex).new (fr f hS), tabs_dK (tabs_new tS hTn) hfd, BT.put O hf (hes.put hi _) fun c z => ?_, _, _, rfl⟩
        cases z
        exact ⟨Int.le_of_lt (PM.cyc_pos hN _ _).1, Int.le_refl _⟩
    · rw [hn] at BS
      exact hk H' st sb oS tS fr BS
  · have fin : ∀ {σ' : L2.St} {H' : Hp} {v : V} {u : Value}, Inv (rbX P w K mg base cda cc (He.ma K (He.ga K "RingBlocks") "__init__") A outer s H) [] σ' H' s' → L2.RelV v u → Q v H' → CE outer P w H s Q u s' :=
      fun {σ' H' v u} J rv q => ⟨v, H', J.unwish.os, J.unwish.bare, J.unwish.base, J.unwish.hok, rv, q⟩
    cases f with
    | ret u =>
      obtain ⟨v, σ', H', J, rv, q⟩ := q
      exact fin J rv q
    | next =>
      obtain ⟨σ', H', J, q⟩ := q
      exact fin (v := V.non) (u := Value.none) J rfl q
    | brk =>
      obtain ⟨_, _, _, q⟩ := q
      exact False.elim q
    | cont =>
      obtain ⟨_, _, _, q⟩ := q
      exact False.elim q
end PP
end
section
set_option maxHeartbeats 4000000
namespace PP
open PySem PySem.Spec PyProof.Rows L2 PR
variable {P : Program} {w : World} {K : PySem.W.Frag} {mg : Str → Option Value} {base : Heap}

open LamX NdefX
/-! ### Ring.__init__ -/
def rgF (tp l h : Addr) : Fl := [("parts", .ref tp), ("limits", .ref l), ("halts", .ref h)]
def postR (ps : List PT) (N : Int) (x : PM.Stop) : Int := postAt ps x % N
structure RingAt (K : PySem.W.Frag) (H : Hp) (a : Addr) (N : Int) (ps : List PT) (stops : List PM.Stop) : Prop where
  ex : ∃ dx tp fa pt pas l h kvl ts, H a = some (.ins (He.ga K "Ring") dx (rgF tp l h)) ∧ SqT K H tp [.int N, .ref fa] ∧ FenceAt K H fa pt pas ps ∧ H l = some (.dK kvl) ∧ H h = some (.dK (haK ps stops ts)) ∧ (∀ i, i < ps.length → valV kvl (.inr (nameOf ps i)) = (limOf stops i).map V.int) ∧ Paired (fun t x => SqT K H t (haltV ps (postR ps N) x)) ts stops
  nd : (ps.map (·.name)).Nodup
theorem RingAt.ex' {H H' : Hp} {a : Addr} {N : Int} {ps : List PT} {stops : List PM.Stop} (e : Ex H H') (h : RingAt K H a N ps stops) : RingAt K H' a N ps stops := by
  obtain ⟨⟨dx, tp, fa, pt, pas, l, h, kvl, ts, h1, h1b, h2, h3, h4, h5, h6⟩, h7⟩ := h
  have up : ∀ {c o}, H c = some o → NTb o → H' c = some o := fun {c o} q n => e c o q n id
  exact ⟨⟨dx, tp, fa, pt, pas, l, h, kvl, ts, up h1 (by intro ps z; cases z), e.fx.sqT h1b, h2.ex' e, up h3 (by intro ps z; cases z), up h4 (by intro ps z; cases z), h5, pr_imp h6 fun t x q => e.fx.sqT q⟩, h7⟩
def spRingI (K : PySem.W.Frag) : Sp := fun vs H Q _ => ∃ (x dx fa pt : Addr) (pas : List Addr) (ps : List PT) (N : Int), vs = [.ref x, .int N, .ref fa] ∧ H x = some (.ins (He.ga K "Ring") dx []) ∧ FenceAt K H fa pt pas ps ∧ 0 < N ∧ N ≤ 10 ^ 30 ∧ TabsN (tbl K) H ∧
  ∀ H' stops, Off (fun c => c = x) H H' → TabsN (tbl K) H' → RingAt K H' x N ps stops → PM.Run ps.length (dayOf ps) (PM.fbR N (dayOf ps) (postOf ps) (strOf ps)) (fun p => some (PM.cyc N (strOf ps) p)) (fun _ => none) stops → Q .non H'
theorem cons_ring {K : PySem.W.Frag} {ps : List PT} {N : Int} : Cons ps.length (rKd K ps N).fb (fun p => some (PM.cyc N (strOf ps) p)) (fun _ => none) (mR (rKd K ps N) ps N ps.length) := by
  intro p hp _ q
  unfold PM.Bl mR
  by_cases e : q = p
  · rw [if_pos e, if_pos ⟨e.symm, hp⟩]
  · rw [if_neg e, if_neg (fun z => e z.1.symm)]
    unfold mij
    by_cases hq : q < ps.length
    · rw [if_pos hq, if_pos ⟨.inl hp, fun z => e z.symm, hp, hq⟩]
    · rw [if_neg hq, if_neg (fun z => hq z.2.2.2)]
theorem sc_Ring_init : FnScope ["self", "size", "fence", "stops", "day", "place", "count", "blocker", "painter", "post"] ["self", "size", "fence"] (defScope s_Ring_init) := ⟨rfl, rfl, rfl, by decide +kernel, rfl, by decide +kernel, by decide +kernel⟩
theorem ok_Ring_init (T : Txt K mg) (B : Tbs K mg base) (S : InitR P K) : Fn P w K mg base 15 (He.ma K (He.ga K "Ring") "__init__") (spRingI K) := by
  obtain ⟨fd, F⟩ := T.d_Ring_init
  have G_Fence_len := ok_Fence_len (P := P) (w := w) (base := base) T
  have G_Fence_painters := ok_Fence_painters (P := P) (w := w) (base := base) T
  have G_Painter_name := ok_Painter_name (P := P) (w := w) (base := base) T
  have G_Painter_post := ok_Painter_post (P := P) (w := w) (base := base) T
  have G_Painter_stride := ok_Painter_stride (P := P) (w := w) (base := base) T
  have G_is_between := ok_is_between (P := P) (w := w) (base := base) T
  obtain ⟨tk_MAX_FEW, hc_MAX_FEW⟩ := T.i_MAX_FEW
  obtain ⟨tk_MAX_SIZE, hc_MAX_SIZE⟩ := T.i_MAX_SIZE
  refine okR F sc_Ring_init (fun vs H Q E h => ?_) (fun _ _ _ _ _ _ us hl => match us, hl with | [_, _, _], _ => rfl) (fun cdv A outer s H vs Q E hr h => ?_)
  · obtain ⟨x, dx, fa, pt, pas, ps, N, rfl, _⟩ := h; rfl
  · obtain ⟨x, dx, fa, pt, pas, ps, N, rfl, hx, F1, hN, hM, tb, hk⟩ := h
    have zN : Sz 1000 N := Sz.of (by have : (0 : Int) < 2 ^ 1000 := by decide
                                     omega) (Int.lt_of_le_of_lt hM (by decide))
    have O := ok_rKd (P := P) (w := w) (ps := ps) T B hN zN
    have G_RingBlocks_init := ok_RingBlocks_init (P := P) (w := w) (ps := ps) T B S hN zN
    have G_RingBlocks_all_stops := ok_all_stops (own := fun p => some (PM.cyc N (strOf ps) p)) T O
    refine ⟨_, (pss_cons (ps_if (pt_not (pt_val (pe_callR G_is_between (hr.mono (by decide)) T.g_is_between (T.d_is_between.elim fun _ F => F.kp) (pa_cons (pv 1) (pa_cons pe_int (pa_cons (pe_glob (v := .int 1000000000000000000000000000000) rfl hc_MAX_SIZE ⟨_, rfl⟩) pa_nil)))))) (pss_one ps_never) pss_nil)
    (pss_cons (ps_if (pt_cmpR op_gt (pe_callB (call_lenOwn T.o_Fence_len G_Fence_len (hr.mono (by decide)) pass0) (by rfl) T.f_len (by decide +kernel) (pa_cons (pv 2) pa_nil)) (pe_glob (v := .int 8) rfl hc_MAX_FEW ⟨_, rfl⟩) (nomark _)) (pss_one ps_never) pss_nil)
    (pss_cons (ps_fld (pv 0) (pe_tup (pa_cons (pv 1) (pa_cons (pv 2) pa_nil))) rfl)
    (pss_cons (ps_fld (pv 0) pe_dnewK rfl)
    (pss_cons (ps_fld (pv 0) pe_dnewK rfl)
    (pss_cons (ps_set (i := 3) sc_Ring_init.nd rfl (.inl rfl) (pe_methR0 (StX.pe_makeR T.k_RingBlocks G_RingBlocks_init (hr.mono (by decide)) (by rfl) T.g_RingBlocks pass0 (pa_cons (pv 1) (pa_cons (pe_propR (pv 2) T.c_Fence T.p_Fence_painters G_Fence_painters (hr.mono (by decide))) pa_nil))) T.c_RingBlocks T.m_RingBlocks_all_stops G_RingBlocks_all_stops (hr.mono (by decide))))
    (pss_one (ps_for PassesOwn.never rfl (pi_list (pv 3)) (pg_tup rfl (pgs_cons (pg_name (i := 4) sc_Ring_init.nd rfl (.inl rfl)) (pgs_cons (pg_name (i := 5) sc_Ring_init.nd rfl (.inl rfl)) (pgs_cons (pg_name (i := 6) sc_Ring_init.nd rfl (.inl rfl)) (pgs_cons (pg_name (i := 7) sc_Ring_init.nd rfl (.inl rfl)) pgs_nil))))) (pss_cons (ps_set (i := 8) sc_Ring_init.nd rfl (.inl rfl) (pe_ix ix_tup (pe_propR (pv 2) T.c_Fence T.p_Fence_painters G_Fence_painters (hr.mono (by decide))) (pv 5) (fun _ _ => rfl)))
    (pss_cons (ps_dput (hu_of hr) (pe_fld (pv 0) rfl) (pe_propR (pv 8) T.c_Painter T.p_Painter_name G_Painter_name (hr.mono (by decide))) (pv 6) rfl)
    (pss_cons (ps_set (i := 9) sc_Ring_init.nd rfl (.inl rfl) (pe_op op_mod (pe_op op_add (pe_propR (pv 8) T.c_Painter T.p_Painter_post G_Painter_post (hr.mono (by decide))) (pe_op op_mulW (pv 6) (pe_propR (pv 8) T.c_Painter T.p_Painter_stride G_Painter_stride (hr.mono (by decide))))) (pv 1)))
    (pss_one (ps_dput (hu_of hr) (pe_fld (pv 0) rfl) (pe_propR (pv 8) T.c_Painter T.p_Painter_name G_Painter_name (hr.mono (by decide))) (pe_tup (pa_cons (pv 4) (pa_cons (pv 9) (pa_cons (pe_propR (pe_ix ix_tup (pe_propR (pv 2) T.c_Fence T.p_Fence_painters G_Fence_painters (hr.mono (by decide))) (pv 7) (fun _ _ => rfl)) T.c_Painter T.p_Painter_name G_Painter_name (hr.mono (by decide))) pa_nil)))) rfl))))))))))))), ?_⟩
    have fen : ∀ {H'}, Off (fun c => c = x) H H' → FenceAt K H' fa pt pas ps := fun {H'} o => F1.off o hx
    have ins_tab : ∀ {H1 : Hp} {fs fs' : Fl} {C : Addr}, TabsN (tbl K) H1 → H1 x = some (.ins C dx fs) → TabsN (tbl K) (upd H1 x (.ins C dx fs')) := fun {H1 fs fs' C} t e => tabs_upd t fun u eu => by
      rw [e] at eu; cases eu
      exact ⟨(by intro ps z; cases z), fun c q z => codeO_kind.1 (by rw [← z]; trivial)⟩
    have c1 : decide (1 ≤ N ∧ N ≤ 10 ^ 30) = true := decide_eq_true ⟨by omega, hM⟩
    obtain ⟨dxf, df, hf1, _⟩ := F1.ex
    refine ⟨_, rfl, N, 1, 10 ^ 30, rfl, _, congrArg V.bl c1, ?_⟩
    have h8 := F1.n8
    have hle : ¬ ((8 : Int) < (ps.length : Int)) := by omega
    refine ⟨_, rfl, fa, dxf, _, rfl, hf1, fa, pt, pas, ps, rfl, F1, _, rfl, by omega, by omega, _, _, rfl, rfl, _, congrArg V.bl (decide_eq_false hle), ?_⟩
    -- self.parts
    refine ⟨_, rfl, _, rfl, by show 2 ≤ sizeLine; decide, fun tp htp => ?_⟩
    have e0 := same_new (o := .tup [.int N, .ref fa]) htp
    refine ⟨_, rfl, x, _, dx, _, rfl, e0 _ _ hx, T.c_Ring, T.a_Ring_parts, (by decide : (0 : Nat) < 1000), ?_⟩
    have v1 : But x H (upd (upd H tp (.tup [.int N, .ref fa])) x (.ins (He.ga K "Ring") dx [("parts", .ref tp)])) := ((But.of (Same.refl H)).same e0).upd
    have t1 : TabsN (tbl K) (upd (upd H tp (.tup [.int N, .ref fa])) x (.ins (He.ga K "Ring") dx [("parts", .ref tp)])) := ins_tab (tabs_same tb e0) (e0 _ _ hx)
    have htx : tp ≠ x := fun z => by rw [z, hx] at htp; cases htp
    -- self.limits
    intro l hl
    have hl : (upd (upd H tp (.tup [.int N, .ref fa])) x (.ins (He.ga K "Ring") dx [("parts", .ref tp)])) l = none := hl
    have hlx : l ≠ x := fun z => by rw [z, upd_same] at hl; cases hl
    have hlH : H l = none := v1.none hlx hl
    have e3 := same_new (o := .dK []) hl
    refine ⟨_, rfl, x, _, dx, _, rfl, e3 _ _ upd_same, T.c_Ring, T.a_Ring_limits, (by decide : (1 : Nat) < 1000), ?_⟩
    have v4 : But x H (upd (upd (upd (upd H tp (.tup [.int N, .ref fa])) x (.ins (He.ga K "Ring") dx [("parts", .ref tp)])) l (.dK [])) x (.ins (He.ga K "Ring") dx [("parts", .ref tp), ("limits", .ref l)])) := (v1.same e3).upd
    have t4 : TabsN (tbl K) (upd (upd (upd (upd H tp (.tup [.int N, .ref fa])) x (.ins (He.ga K "Ring") dx [("parts", .ref tp)])) l (.dK [])) x (.ins (He.ga K "Ring") dx [("parts", .ref tp), ("limits", .ref l)])) := ins_tab (tabs_same t1 e3) (e3 _ _ upd_same)
    have hL4 : (upd (upd (upd (upd H tp (.tup [.int N, .ref fa])) x (.ins (He.ga K "Ring") dx [("parts", .ref tp)])) l (.dK [])) x (.ins (He.ga K "Ring") dx [("parts", .ref tp), ("limits", .ref l)])) l = some (.dK []) := (upd_ne hlx).trans upd_same
    have ht4 : (upd (upd (upd (upd H tp (.tup [.int N, .ref fa])) x (.ins (He.ga K "Ring") dx [("parts", .ref tp)])) l (.dK [])) x (.ins (He.ga K "Ring") dx [("parts", .ref tp), ("limits", .ref l)])) tp = some (.tup [.int N, .ref fa]) := (upd_ne htx).trans (e3 _ _ ((upd_ne htx).trans upd_same))
    have hx4 : (upd (upd (upd (upd H tp (.tup [.int N, .ref fa])) x (.ins (He.ga K "Ring") dx [("parts", .ref tp)])) l (.dK [])) x (.ins (He.ga K "Ring") dx [("parts", .ref tp), ("limits", .ref l)])) x = some (.ins (He.ga K "Ring") dx [("parts", .ref tp), ("limits", .ref l)]) := upd_same
    -- self.halts
    intro h hh
    have hh : (upd (upd (upd (upd H tp (.tup [.int N, .ref fa])) x (.ins (He.ga K "Ring") dx [("parts", .ref tp)])) l (.dK [])) x (.ins (He.ga K "Ring") dx [("parts", .ref tp), ("limits", .ref l)])) h = none := hh
    have hhx : h ≠ x := fun z => by rw [z, hx4] at hh; cases hh
    have hhl : h ≠ l := fun z => by rw [z, hL4] at hh; cases hh
    have hht : h ≠ tp := fun z => by rw [z, ht4] at hh; cases hh
    have hhH : H h = none := v4.none hhx hh
    have e5 := same_new (o := .dK []) hh
    refine ⟨_, rfl, x, _, dx, _, rfl, e5 _ _ hx4, T.c_Ring, T.a_Ring_halts, (by decide : (2 : Nat) < 1000), ?_⟩
    have v6 : But x H (upd (upd (upd (upd (upd (upd H tp (.tup [.int N, .ref fa])) x (.ins (He.ga K "Ring") dx [("parts", .ref tp)])) l (.dK [])) x (.ins (He.ga K "Ring") dx [("parts", .ref tp), ("limits", .ref l)])) h (.dK [])) x (.ins (He.ga K "Ring") dx (rgF tp l h))) := (v4.same e5).upd
    have t6 : TabsN (tbl K) (upd (upd (upd (upd (upd (upd H tp (.tup [.int N, .ref fa])) x (.ins (He.ga K "Ring") dx [("parts", .ref tp)])) l (.dK [])) x (.ins (He.ga K "Ring") dx [("parts", .ref tp), ("limits", .ref l)])) h (.dK [])) x (.ins (He.ga K "Ring") dx (rgF tp l h))) := ins_tab (tabs_same t4 e5) (e5 _ _ hx4)
    have hx6 : (upd (upd (upd (upd (upd (upd H tp (.tup [.int N, .ref fa])) x (.ins (He.ga K "Ring") dx [("parts", .ref tp)])) l (.dK [])) x (.ins (He.ga K "Ring") dx [("parts", .ref tp), ("limits", .ref l)])) h (.dK [])) x (.ins (He.ga K "Ring") dx (rgF tp l h))) x = some (.ins (He.ga K "Ring") dx (rgF tp l h)) := upd_same
    have hL6 : (upd (upd (upd (upd (upd (upd H tp (.tup [.int N, .ref fa])) x (.ins (He.ga K "Ring") dx [("parts", .ref tp)])) l (.dK [])) x (.ins (He.ga K "Ring") dx [("parts", .ref tp), ("limits", .ref l)])) h (.dK [])) x (.ins (He.ga K "Ring") dx (rgF tp l h))) l = some (.dK []) := (upd_ne hlx).trans (e5 _ _ hL4)
    have ht6 : (upd (upd (upd (upd (upd (upd H tp (.tup [.int N, .ref fa])) x (.ins (He.ga K "Ring") dx [("parts", .ref tp)])) l (.dK [])) x (.ins (He.ga K "Ring") dx [("parts", .ref tp), ("limits", .ref l)])) h (.dK [])) x (.ins (He.ga K "Ring") dx (rgF tp l h))) tp = some (.tup [.int N, .ref fa]) := (upd_ne htx).trans (e5 _ _ ht4)
    have hH6 : (upd (upd (upd (upd (upd (upd H tp (.tup [.int N, .ref fa])) x (.ins (He.ga K "Ring") dx [("parts", .ref tp)])) l (.dK [])) x (.ins (He.ga K "Ring") dx [("parts", .ref tp), ("limits", .ref l)])) h (.dK [])) x (.ins (He.ga K "Ring") dx (rgF tp l h))) h = some (.dK []) := (upd_ne hhx).trans upd_same
    have F6 := fen v6.off
    obtain ⟨dxf6, df6, hf6, _⟩ := F6.ex
    have E6 : (upd (upd (upd (upd (upd (upd H tp (.tup [.int N, .ref fa])) x (.ins (He.ga K "Ring") dx [("parts", .ref tp)])) l (.dK [])) x (.ins (He.ga K "Ring") dx [("parts", .ref tp), ("limits", .ref l)])) h (.dK [])) x (.ins (He.ga K "Ring") dx (putF "halts" (.ref h) [("parts", .ref tp), ("limits", .ref l)]))) = (upd (upd (upd (upd (upd (upd H tp (.tup [.int N, .ref fa])) x (.ins (He.ga K "Ring") dx [("parts", .ref tp)])) l (.dK [])) x (.ins (He.ga K "Ring") dx [("parts", .ref tp), ("limits", .ref l)])) h (.dK [])) x (.ins (He.ga K "Ring") dx (rgF tp l h))) := rfl
    -- stops
    refine ⟨_, rfl, _, rfl, fa, dxf6, _, rfl, hf6, fa, pt, pas, ps, rfl, F6, fun b dxb hb hdb hne => ?_⟩
    have eM := same_made (C := He.ga K "RingBlocks") hb hdb hne
    refine ⟨b, dxb, pt, pas, rfl, upd_same, same_sqT eM F6.w, paints_fx (Fx.same eM) F6.pp, F6.n8, tabs_same t6 eM, fun H7 st sb o7 t7 new B7 => ⟨rfl, ?_⟩⟩
    have hb7 := B7.b
    rw [sb] at hb7
    refine ⟨b, _, _, rfl, hb7, bk_lk.2.2.2.2.2.2.2.2.2, st, _, _, _, _, by rw [sb], B7, t7, fun p q hp hq hpq => ⟨.inl hp, hpq, hp, hq⟩, cons_ring, fun H8 sl as stops o8 t8 hsl hL8 hpr hrun => ?_⟩
    have x68 : ∀ {c o}, (upd (upd (upd (upd (upd (upd H tp (.tup [.int N, .ref fa])) x (.ins (He.ga K "Ring") dx [("parts", .ref tp)])) l (.dK [])) x (.ins (He.ga K "Ring") dx [("parts", .ref tp), ("limits", .ref l)])) h (.dK [])) x (.ins (He.ga K "Ring") dx (rgF tp l h))) c = some o → NTb o → H8 c = some o := fun {c o} q n => by
      have q2 := eM _ _ q
      exact o8 c o (o7 c o q2 n (ne_of_none q hb)) n fun z => by rw [new c z] at q2; cases q2
    have o8H : Off (fun c => c = x) H H8 := v6.off.trans (fun c o q n _ => x68 q n)
    have hx8 := x68 hx6 (by intro ps z; cases z)
    have hLl8 := x68 hL6 (by intro ps z; cases z)
    have hHh8 := x68 hH6 (by intro ps z; cases z)
    have ht8 := x68 ht6 (by intro ps z; cases z)
    have hlen : stops.length ≤ 8 := by
      have h1 := nodup_le ps.length (stops.map (·.2.1)) hrun.nodup fun i hi => by
        obtain ⟨y, hy, rfl⟩ := List.mem_map.mp hi
        exact (hrun.free y hy).2.1
      rw [List.length_map] at h1
      exact Nat.le_trans h1 F1.n8
    have hcnt : ∀ y ∈ stops, 0 ≤ y.2.2.1 ∧ y.2.2.1 ≤ N := run_cnt (R := fun _ c => 0 ≤ c ∧ c ≤ N) (fun lim p q k hp hb => by
      have hc := PM.cyc_pos hN (strOf ps) p
      have hq := PM.Bl_lt hp hb
      unfold PM.Bl at hb
      by_cases e : q = p
      · rw [if_pos e] at hb
        have hb := Option.some.inj hb
        omega
      · rw [if_neg e, if_pos hq] at hb
        have := PM.ring_le hb
        omega) hrun
    -- the loop
    refine ⟨_, rfl, sl, rfl, ⟨_, .inl (.inl hL8)⟩, ?_⟩
    have hxs : sl ≠ x := fun z => by rw [z] at hL8; rw [hx8] at hL8; cases hL8
    refine for_list (xs := as.map V.ref) (fun i σ H' => Off (fun c => c = x) H H' ∧ TabsN (tbl K) H' ∧ H' x = some (.ins (He.ga K "Ring") dx (rgF tp l h)) ∧ H' tp = some (.tup [.int N, .ref fa]) ∧ H' sl = some (.lst (as.map V.ref)) ∧ Paired (fun a y => SqT K H' a (stopV y)) as stops ∧
        (∃ kvl ts, H' l = some (.dK kvl) ∧ H' h = some (.dK (haK ps (stops.take i) ts)) ∧ kvl.length ≤ i ∧ (∀ j, j < ps.length → valV kvl (.inr (nameOf ps j)) = (limOf (stops.take i) j).map V.int) ∧ Paired (fun t y => SqT K H' t (haltV ps (postR ps N) y)) ts (stops.take i)) ∧
        ∃ z1 z2 z3 z4 z5 z6, σ = [some (.ref x), some (.int N), some (.ref fa), some (.ref sl), z1, z2, z3, z4, z5, z6])
      ⟨o8H, t8, hx8, ht8, hL8, hpr, ⟨[], [], hLl8, hHh8, Nat.le_refl _, fun j hj => rfl, .nil⟩, _, _, _, _, _, _, rfl⟩ (fun i σ H' _ ⟨_, _, _, _, e, _⟩ => .inl (.inl e))
      (fun i v σ Hc hv ⟨oC, tC, hxC, htC, hsC, hprC, ⟨kvl, ts, hlC, hhC, hkl, hkv, hts⟩, z1, z2, z3, z4, z5, z6, eσ⟩ => ?_) (fun σ H' ⟨oC, tC, hxC, htC, hsC, hprC, ⟨kvl, ts, hlC, hhC, hkl, hkv, hts⟩, z1, z2, z3, z4, z5, z6, eσ⟩ => ?_)
    · subst eσ
      rw [List.getElem?_map] at hv
      obtain ⟨a0, ha0, ev⟩ := Option.map_eq_some_iff.mp hv
      subst ev
      obtain ⟨y, hy, hsy⟩ := PR.paired_get hprC ha0
      have hym := List.mem_of_getElem? hy
      obtain ⟨_, yp, yb, _⟩ := hrun.free y hym
      obtain ⟨c0, c1⟩ := hcnt y hym
      have FC := fen oC
      obtain ⟨dxfC, dfC, hfC, _⟩ := FC.ex
      obtain ⟨pa, P0, hpa, hP0, hPA⟩ := paired_at FC.pp yp
      obtain ⟨dp, tpp, hp1, _, wy⟩ := id hPA
      have nmP := name_at hP0
      refine ⟨a0, _, rfl, hsy, rfl, _, _, rfl, _, _, rfl, _, _, rfl, _, _, rfl, rfl, ?_⟩
      refine ⟨_, rfl, fa, dxfC, _, rfl, hfC, fa, pt, pas, ps, rfl, FC, _, rfl, pt, _, _, _, rfl, rfl, FC.w, atI_nat (ix_ref hpa), ?_⟩
      have hlen1 : kvl.length < sizeLine := by
        have := (List.getElem?_eq_some_iff.mp hy).1
        exact Nat.lt_of_lt_of_le (by omega : kvl.length < 100) (by decide)
      refine ⟨_, rfl, _, rfl, x, _, dx, _, _, rfl, hxC, T.c_Ring, T.a_Ring_limits, rfl, _, rfl, pa, dp, _, rfl, hp1, pa, P0, rfl, hPA, l, _, rfl, DPut.k (k := .inr P0.name) hlC hlen1, ?_⟩
      -- behind the limit's store
      have oD : Off (fun c => c = x) H (upd Hc l (.dK (putK kvl (.inr P0.name) (.int y.2.2.1)))) := oC.new hlH
      have FD1 := fen oD
      obtain ⟨dxfD, dfD, hfD, _⟩ := FD1.ex
      obtain ⟨pa', P0', hpa', hP0', hPAD⟩ := paired_at FD1.pp yp
      rw [hpa] at hpa'; cases hpa'
      rw [hP0] at hP0'; cases hP0'
      obtain ⟨dpD, tpD, hpD, _⟩ := id hPAD
      obtain ⟨qa, Q0, hqa, hQ0, hQA⟩ := paired_at FD1.pp yb
      obtain ⟨dq, tq, hq1, _⟩ := id hQA
      have hxD : (upd Hc l (.dK (putK kvl (.inr P0.name) (.int y.2.2.1)))) x = some (.ins (He.ga K "Ring") dx (rgF tp l h)) := (upd_ne hlx.symm).trans hxC
      have htl : tp ≠ l := ne_of htC hlC (by intro z; cases z)
      have hth0 : tp ≠ h := ne_of htC hhC (by intro z; cases z)
      have htD : (upd Hc l (.dK (putK kvl (.inr P0.name) (.int y.2.2.1)))) tp = some (.tup [.int N, .ref fa]) := (upd_ne htl).trans htC
      have hhD : (upd Hc l (.dK (putK kvl (.inr P0.name) (.int y.2.2.1)))) h = some (.dK (haK ps (stops.take i) ts)) := (upd_ne hhl).trans hhC
      have zc : Sz 1000 y.2.2.1 := zN.small (by omega)
      refine ⟨_, rfl, pa, dpD, _, rfl, hpD, pa, P0, rfl, hPAD, _, rfl, _, rfl, pa, dpD, _, rfl, hpD, pa, P0, rfl, hPAD, _, _, rfl, rfl, zc.mul wy.zs (by decide), _, _, rfl, rfl, _, rfl, _, _, rfl, rfl, hN, ?_⟩
      refine ⟨_, rfl, _, rfl, _, rfl, fa, dxfD, _, rfl, hfD, fa, pt, pas, ps, rfl, FD1, _, rfl, pt, _, _, _, rfl, rfl, FD1.w, atI_nat (ix_ref hqa), qa, dq, _, rfl, hq1, qa, Q0, rfl, hQA, by show 3 ≤ sizeLine; decide, fun t ht => ?_⟩
      have eT := same_new (o := .tup [.int y.1, .int ((P0.post + y.2.2.1 * P0.str) % N), .str Q0.name]) ht
      have hPT := hPAD.fx (Fx.same eT)
      obtain ⟨dpT, tpT, hpT, _⟩ := id hPT
      have hts2 : ts.length = (stops.take i).length := Paired.length hts
      have hnone : valV (haK ps (stops.take i) ts) (.inr P0.name) = none := haK_none fun u hu z => by
        obtain ⟨j, hj⟩ := List.mem_iff_getElem?.mp hu
        have hji : j < i := by
          have := (List.getElem?_eq_some_iff.mp hj).1
          rw [List.length_take] at this
          omega
        rw [List.getElem?_take_of_lt hji] at hj
        rw [← nmP] at z
        have e1 := name_inj F1.nd (hrun.free u (List.mem_of_getElem? hj)).2.1 yp z
        have f1 : (stops.map (·.2.1))[j]? = some y.2.1 := by rw [List.getElem?_map, hj, ← e1]; rfl
        have f2 : (stops.map (·.2.1))[i]? = some y.2.1 := by rw [List.getElem?_map, hy]; rfl
        have := nodup_get hrun.nodup f1 f2
        omega
      have hlen2 : (haK ps (stops.take i) ts).length < sizeLine := by
        unfold haK
        rw [List.length_map, List.length_zip, List.length_take]
        exact Nat.lt_of_lt_of_le (by omega : min (min i stops.length) ts.length < 100) (by decide)
      refine ⟨_, rfl, x, _, dx, _, _, rfl, eT _ _ hxD, T.c_Ring, T.a_Ring_halts, rfl, _, rfl, pa, dpT, _, rfl, hpT, pa, P0, rfl, hPT, h, _, rfl, DPut.k (k := .inr P0.name) (eT _ _ hhD) hlen2, ?_⟩
      have fz : Fx Hc (upd (upd (upd Hc l (.dK (putK kvl (.inr P0.name) (.int y.2.2.1)))) t (.tup [.int y.1, .int ((P0.post + y.2.2.1 * P0.str) % N), .str Q0.name])) h (.dK (putK (haK ps (stops.take i) ts) (.inr P0.name) (.ref t)))) :=
        (((Fx.refl Hc).upd hlC id).trans (Fx.same eT)).trans ((Fx.refl _).upd (eT _ _ hhD) id)
      have hth : t ≠ h := fun z => by rw [z, hhD] at ht; cases ht
      have hlt : l ≠ t := fun z => by rw [← z, upd_same] at ht; cases ht
      refine ⟨(oD.trans (Off.same eT)).new hhH, tabs_dK (tabs_same (tabs_dK tC hlC) eT) (eT _ _ hhD), (upd_ne hhx.symm).trans (eT _ _ hxD), (upd_ne hth0).trans (eT _ _ htD), ?_, pr_imp hprC fun a u q => fz.sqT q, ⟨_, ts ++ [t], (upd_ne (fun z => hhl z.symm)).trans ((upd_ne hlt).trans upd_same), ?_, ?_, fun j hj => ?_, ?_⟩, _, _, _, _, _, _, rfl⟩
      · refine (upd_ne (ne_of hsC hhC (by intro z; cases z))).trans (eT _ _ ((upd_ne (ne_of hsC hlC (by intro z; cases z))).trans hsC))
      · rw [upd_same, putK_new _ hnone, take_snoc hy, haK_snoc hts2, nmP]
      · exact Nat.le_trans (length_putK ..) (by omega)
      · rw [valV_put, take_snoc hy]
        have e1 : limOf (stops.take i ++ [y]) j = if j = y.2.1 then some y.2.2.1 else limOf (stops.take i) j := by
          unfold limOf
          rw [haltOf_snoc fun u hu z => ?_]
          · by_cases e : j = y.2.1
            · rw [if_pos e, if_pos e]; rfl
            · rw [if_neg e, if_neg e]
          · obtain ⟨j2, hj2⟩ := List.mem_iff_getElem?.mp hu
            have hji : j2 < i := by
              have := (List.getElem?_eq_some_iff.mp hj2).1
              rw [List.length_take] at this
              omega
            rw [List.getElem?_take_of_lt hji] at hj2
            have f1 : (stops.map (·.2.1))[j2]? = some y.2.1 := by rw [List.getElem?_map, hj2, ← z]; rfl
            have f2 : (stops.map (·.2.1))[i]? = some y.2.1 := by rw [List.getElem?_map, hy]; rfl
            have := nodup_get hrun.nodup f1 f2
            omega
        rw [e1]
        by_cases e : j = y.2.1
        · rw [if_pos e, if_pos (by rw [e, nmP])]; rfl
        · have : nameOf ps j ≠ P0.name := fun z => e (name_inj F1.nd hj yp (by rw [z, nmP]))
          rw [if_neg e, if_neg (fun z => this (Sum.inr.inj z))]
          exact hkv j hj
      · rw [take_snoc hy]
        refine pr_snoc (pr_imp hts fun a u q => fz.sqT q) (SqT.of ((upd_ne hth).trans ?_))
        have e1 : haltV ps (postR ps N) y = [.int y.1, .int ((P0.post + y.2.2.1 * P0.str) % N), .str Q0.name] := by
          obtain ⟨a1, a2, a3⟩ := of_at hP0
          unfold haltV postR postAt
          rw [a2, a3, name_at hQ0]
        rw [e1]
        exact upd_same
    · have hn8 : (as.map V.ref).length = stops.length := by rw [List.length_map, Paired.length hpr]
      rw [hn8, List.take_length] at hhC hkv hts
      exact hk H' stops oC tC ⟨⟨dx, tp, fa, pt, pas, l, h, kvl, ts, hxC, SqT.of htC, fen oC, hlC, hhC, hkv, hts⟩, F1.nd⟩ hrun
/-! ### Ring: fence, row, [..] -/
end PP
end
section
set_option maxHeartbeats 4000000
namespace PP
open PySem PySem.Spec PyProof.Rows L2 PR
variable {P : Program} {w : World} {K : PySem.W.Frag} {mg : Str → Option Value} {base : Heap}

open LamX NdefX
/-! ### Ring: fence, row, [..] -/
def spGFence (K : PySem.W.Frag) : Sp := fun vs H Q _ => ∃ (a dx tp fa l h : Addr) (N : Int), vs = [.ref a] ∧ H a = some (.ins (He.ga K "Ring") dx (rgF tp l h)) ∧ SqT K H tp [.int N, .ref fa] ∧ Q (.ref fa) H
theorem sc_Ring_fence : FnScope ["self"] ["self"] (defScope s_Ring_fence) := ⟨rfl, rfl, rfl, by decide +kernel, rfl, by decide +kernel, by decide +kernel⟩
theorem ok_Ring_fence (T : Txt K mg) : Fn P w K mg base 1 (pg K "Ring" "fence") (spGFence K) := by
  obtain ⟨fd, F⟩ := T.d_Ring_fence
  refine okR F sc_Ring_fence (fun vs H Q E h => ?_) (fun _ _ _ _ _ _ us hl => match us, hl with | [_], _ => rfl) (fun cdv A outer s H vs Q E hr h => ⟨_, (pss_one (ps_ret (pe_ix ix_tup (pe_fld (pv 0) rfl) pe_int (fun _ _ => rfl)))), ?_⟩)
  · obtain ⟨a, dx, tp, fa, l, h, N, rfl, _⟩ := h; rfl
  · obtain ⟨a, dx, tp, fa, l, h, N, rfl, ha, ht, q⟩ := h
    exact ⟨_, rfl, a, _, dx, _, _, rfl, ha, T.c_Ring, T.a_Ring_parts, rfl, tp, _, _, _, rfl, rfl, ht, rfl, q⟩
def spGRow (K : PySem.W.Frag) : Sp := fun vs H Q _ => ∃ (a : Addr) (N : Int) (ps : List PT) (stops : List PM.Stop) (i : Nat) (x : PM.Stop), vs = [.ref a, .str (nameOf ps i)] ∧ RingAt K H a N ps stops ∧ i < ps.length ∧ (∀ x ∈ stops, x.2.1 < ps.length) ∧ haltOf stops i = some x ∧ ∀ r t H', Same H H' → SqT K H' r [.str (nameOf ps i), .int x.2.2.1, .ref t] → SqT K H' t (haltV ps (postR ps N) x) → Q (.ref r) H'
theorem sc_Ring_row : FnScope ["self", "name"] ["self", "name"] (defScope s_Ring_row) := ⟨rfl, rfl, rfl, by decide +kernel, rfl, by decide +kernel, by decide +kernel⟩
theorem ok_Ring_row (T : Txt K mg) : Fn P w K mg base 1 (He.ma K (He.ga K "Ring") "row") (spGRow K) := by
  obtain ⟨fd, F⟩ := T.d_Ring_row
  refine okR F sc_Ring_row (fun vs H Q E h => ?_) (fun _ _ _ _ _ _ us hl => match us, hl with | [_, _], _ => rfl) (fun cdv A outer s H vs Q E hr h => ⟨_, (pss_one (ps_ret (pe_tup (pa_cons (pv 1) (pa_cons (pe_dget (hu_of hr) (pe_fld (pv 0) rfl) (pv 1) (fun _ _ => rfl)) (pa_cons (pe_dget (hu_of hr) (pe_fld (pv 0) rfl) (pv 1) (fun _ _ => rfl)) pa_nil)))))), ?_⟩)
  · obtain ⟨a, N, ps, stops, i, x, rfl, _⟩ := h; rfl
  · obtain ⟨a, N, ps, stops, i, x, rfl, HA, hi, hst, hx, q⟩ := h
    obtain ⟨⟨dx, tp, fa, pt, pas, l, h, kvl, ts, h1, h1b, F1, h3, h4, h5, h6⟩, h7⟩ := HA
    have hg := haK_get h7 hi h6 hst
    rw [hx] at hg
    obtain ⟨t, g1, g2⟩ := hg
    have hl : valV kvl (.inr (nameOf ps i)) = some (.int x.2.2.1) := by rw [h5 i hi]; unfold limOf; rw [hx]; rfl
    refine ⟨_, rfl, _, rfl, a, _, dx, _, _, rfl, h1, T.c_Ring, T.a_Ring_limits, rfl, _, rfl, l, _, rfl, by rw [← hl]; exact DGet.k (k := .inr (nameOf ps i)) h3, ?_⟩
    refine ⟨_, rfl, a, _, dx, _, _, rfl, h1, T.c_Ring, T.a_Ring_halts, rfl, _, rfl, h, .ref t, rfl, by rw [← g1]; exact DGet.k (k := .inr (nameOf ps i)) h4, by show 3 ≤ sizeLine; decide, fun r hr => ?_⟩
    exact q r t _ (same_new hr) (SqT.of upd_same) (same_sqT (same_new hr) g2)
theorem sc_Ring_getitem : FnScope ["self", "name"] ["self", "name"] (defScope s_Ring_getitem) := ⟨rfl, rfl, rfl, by decide +kernel, rfl, by decide +kernel, by decide +kernel⟩
theorem ok_Ring_getitem (T : Txt K mg) : Fn P w K mg base 4 (He.ma K (He.ga K "Ring") "__getitem__") (spGRow K) := by
  obtain ⟨fd, F⟩ := T.d_Ring_getitem
  have G_Ring_row := ok_Ring_row (P := P) (w := w) (base := base) T
  have G_Fence_need_name := ok_Fence_need_name (P := P) (w := w) (base := base) T
  have G_Ring_fence := ok_Ring_fence (P := P) (w := w) (base := base) T
  refine okR F sc_Ring_getitem (fun vs H Q E h => ?_) (fun _ _ _ _ _ _ us hl => match us, hl with | [_, _], _ => rfl) (fun cdv A outer s H vs Q E hr h => ⟨_, (pss_cons (ps_expr (pe_methR (pe_propR (pv 0) T.c_Ring T.p_Ring_fence G_Ring_fence (hr.mono (by decide))) T.c_Fence T.m_Fence_need_name G_Fence_need_name (hr.mono (by decide)) pass0 (pa_cons (pv 1) pa_nil)))
    (pss_one (ps_ret (pe_methR (pv 0) T.c_Ring T.m_Ring_row G_Ring_row (hr.mono (by decide)) pass0 (pa_cons (pv 1) pa_nil))))), ?_⟩)
  · obtain ⟨a, N, ps, stops, i, x, rfl, _⟩ := h; rfl
  · obtain ⟨a, N, ps, stops, i, x, rfl, HA, hi, hst, hx, q⟩ := h
    obtain ⟨⟨dx, tp, fa, pt, pas, l, h, kvl, ts, h1, h1b, F1, h3, h4, h5, h6⟩, h7⟩ := id HA
    obtain ⟨dxf, df, hf1, _⟩ := F1.ex
    have hm : nameOf ps i ∈ ps.map (·.name) := by
      rw [show nameOf ps i = ps[i].name from name_at (List.getElem?_eq_getElem hi)]
      exact List.mem_map_of_mem (List.getElem_mem hi)
    refine ⟨_, rfl, a, dx, _, rfl, h1, a, dx, tp, fa, l, h, N, rfl, h1, h1b, fa, dxf, _, rfl, hf1, rfl, _, rfl, fa, pt, pas, ps, _, rfl, F1, hm, ?_⟩
    exact ⟨_, rfl, a, dx, _, rfl, h1, rfl, _, rfl, a, N, ps, stops, i, x, rfl, HA, hi, hst, hx, q⟩
end PP
end
section
set_option maxHeartbeats 4000000
namespace PP
open PySem PySem.Spec PyProof.Rows L2 PR
variable {P : Program} {w : World} {K : PySem.W.Frag} {mg : Str → Option Value} {base : Heap}

open LamX NdefX
/-! ### the law's pen -/
def PenF (c : Addr) (b r : Int) : List (Key × V) := [(.inr "cells", .ref c), (.inr "begun", .int b), (.inr "rest", .int r)]
def Pen (H : Hp) (p c : Addr) (m : Nat) : Prop := ∃ (ns : List Int) (b r : Int), H p = some (.dK (PenF c b r)) ∧ H c = some (.lst (ns.map V.int)) ∧ 0 ≤ b ∧ b ≤ (m : Int)
theorem pen_c {c : Addr} {b r : Int} : valV (PenF c b r) (.inr "cells") = some (.ref c) := rfl
theorem pen_b {c : Addr} {b r : Int} : valV (PenF c b r) (.inr "begun") = some (.int b) := rfl
theorem pen_r {c : Addr} {b r : Int} : valV (PenF c b r) (.inr "rest") = some (.int r) := rfl
theorem pen_pb {c : Addr} {b r b' : Int} : putK (PenF c b r) (.inr "begun") (.int b') = PenF c b' r := rfl
theorem pen_pr {c : Addr} {b r r' : Int} : putK (PenF c b r) (.inr "rest") (.int r') = PenF c b r' := rfl
theorem Pen.off {H H' : Hp} {p c : Addr} {m : Nat} {S : Addr → Prop} (h : Pen H p c m) (e : Off S H H') (hS : ∀ c, S c → H c = none) : Pen H' p c m := by
  obtain ⟨ns, b, r, h1, h2, h3, h4⟩ := h
  exact ⟨ns, b, r, e _ _ h1 (by intro ps z; cases z) (fun z => by rw [hS _ z] at h1; cases h1), e _ _ h2 (by intro ps z; cases z) (fun z => by rw [hS _ z] at h2; cases h2), h3, h4⟩
theorem Pen.same {H H' : Hp} {p c : Addr} {m : Nat} (h : Pen H p c m) (e : Same H H') : Pen H' p c m := by
  obtain ⟨ns, b, r, h1, h2, h3, h4⟩ := h
  exact ⟨ns, b, r, e _ _ h1, e _ _ h2, h3, h4⟩
theorem Pen.mono {H : Hp} {p c : Addr} {m n : Nat} (h : Pen H p c m) (e : m ≤ n) : Pen H p c n := by
  obtain ⟨ns, b, r, h1, h2, h3, h4⟩ := h
  exact ⟨ns, b, r, h1, h2, h3, by omega⟩
def spPen (K : PySem.W.Frag) : Sp := fun vs H Q _ => ∃ (a : Addr) (ns : List Int), vs = [.ref a] ∧ SqL K H a (ns.map V.int) ∧ ∀ p c H', Same H H' → H p = none → H c = none → Pen H' p c 0 → Q (.ref p) H'
theorem cut_map {ns : List Int} {lo hi : Option Int} : ∃ ms : List Int, cutV (ns.map V.int) lo hi = ms.map V.int := by
  unfold cutV
  exact ⟨_, by rw [← List.map_drop, ← List.map_take]⟩
theorem sc_law_pen : FnScope ["_law_script"] ["_law_script"] (defScope s_law_pen) := ⟨rfl, rfl, rfl, by decide +kernel, rfl, by decide +kernel, by decide +kernel⟩
theorem ok_law_pen (T : Txt K mg) : Fn P w K mg base 1 (He.ga K "_law_pen") (spPen K) := by
  obtain ⟨fd, F⟩ := T.d_law_pen
  refine okR F sc_law_pen (fun vs H Q E h => ?_) (fun _ _ _ _ _ _ us hl => match us, hl with | [_], _ => rfl) (fun cdv A outer s H vs Q E hr h => ⟨_, (pss_one (ps_ret (pe_disp (pps_cons pe_str (pe_callTy call_list_of (by rfl) T.f_list (by decide +kernel) (pa_cons (pe_slice sl_list (pv 0) po_none (po_some pe_int)) pa_nil)) (pps_cons pe_str pe_int (pps_cons pe_str pe_int pps_nil))) rfl rfl (by intro z; cases z) (by decide)))), ?_⟩)
  · obtain ⟨a, ns, rfl, _⟩ := h; rfl
  · obtain ⟨a, ns, rfl, ha, q⟩ := h
    intro p hp
    have e1 := same_new (o := .dK []) hp
    have haL : SqL K (upd H p (.dK [])) a (ns.map V.int) := by
      rcases ha with (h | ⟨u, h⟩) | h
      · exact .inl (.inl (e1 _ _ h))
      · exact .inl (.inr ⟨u, e1 _ _ h⟩)
      · exact .inr h
    obtain ⟨ms, hms⟩ := cut_map (ns := ns) (lo := none) (hi := some 63)
    refine ⟨_, rfl, 63, rfl, a, _, rfl, haL, fun l hl => ?_⟩
    refine ⟨l, _, rfl, .inl (.inl (.inl upd_same)), fun c hc => ?_⟩
    have e2 := same_new (o := .lst (cutV (ns.map V.int) none (some 63))) hl
    have e3 := same_new (o := .lst (cutV (ns.map V.int) none (some 63))) hc
    have hpc := e3 _ _ (e2 _ _ (upd_same (H := H) (a := p) (o := .dK [])))
    refine ⟨hpc, [(.inr "cells", .ref c), (.inr "begun", .int 0), (.inr "rest", .int 0)], rfl, (by decide : (3 : Nat) ≤ 15), ?_⟩
    have hcp : c ≠ p := fun z => by rw [z, e2 _ _ upd_same] at hc; cases hc
    refine q p c _ (same_put ((same_new hp).trans (e2.trans e3)) hp) hp (((same_new hp).trans e2).free hc) ⟨ms, 0, 0, upd_same, ?_, Int.le_refl _, Int.le_refl _⟩
    rw [← hms]
    exact (upd_ne hcp).trans upd_same
end PP
end
section
set_option maxHeartbeats 4000000
namespace PP
open PySem PySem.Spec PyProof.Rows L2 PR
variable {P : Program} {w : World} {K : PySem.W.Frag} {mg : Str → Option Value} {base : Heap}

open LamX NdefX
/-! ### the law's draws -/
theorem pen_gets {H : Hp} {p c : Addr} {b r : Int} (hp : H p = some (.dK (PenF c b r))) : DGet H p (.str "cells") (some (.ref c)) ∧ DGet H p (.str "begun") (some (.int b)) ∧ DGet H p (.str "rest") (some (.int r)) := by
  have z1 := DGet.k (k := .inr "cells") hp
  have z2 := DGet.k (k := .inr "begun") hp
  have z3 := DGet.k (k := .inr "rest") hp
  rw [pen_c] at z1
  rw [pen_b] at z2
  rw [pen_r] at z3
  exact ⟨z1, z2, z3⟩
theorem pen_puts {H : Hp} {p c : Addr} {b r b' r' : Int} (hp : H p = some (.dK (PenF c b r))) : DPut H p (.str "begun") (.int b') (upd H p (.dK (PenF c b' r))) ∧ DPut H p (.str "rest") (.int r') (upd H p (.dK (PenF c b r'))) :=
  ⟨DPut.k (k := .inr "begun") hp (by show 3 < sizeLine; decide), DPut.k (k := .inr "rest") hp (by show 3 < sizeLine; decide)⟩
theorem dpAll_ints {H : Hp} : ∀ ns : List Int, DpAll K H (ns.map V.int) (ns.map PyData.int)
  | [] => .nil
  | n :: ns => .cons (.int n) (dpAll_ints ns)
theorem shaped_ints (ns : List Int) : SeqAt.shaped (.list (ns.map PyData.int)) = true := by
  have h1 : ∀ ns : List Int, PyData.canLayAll0 (ns.map PyData.int) = true := fun ns => by
    induction ns with
    | nil => rfl
    | cons a r ih => show (true && PyData.canLayAll0 (r.map PyData.int)) = true; rw [ih]; rfl
  have h2 : ∀ ns : List Int, PyData.depthAll (ns.map PyData.int) = 0 := fun ns => by
    induction ns with
    | nil => rfl
    | cons a r ih => show max 0 (PyData.depthAll (r.map PyData.int)) = 0; rw [ih]; rfl
  unfold SeqAt.shaped
  rw [Bool.and_eq_true]
  refine ⟨h1 ns, ?_⟩
  rw [decide_eq_true_eq]
  show PyData.depthAll (ns.map PyData.int) + 1 ≤ 64
  rw [h2]; decide
theorem eqv_nil (ns : List Int) : (!PyData.eqv (.list (ns.map PyData.int)) (.list [])) = !ns.isEmpty := by
  cases ns <;> rfl
theorem u64_of {k : Nat} {A : Around} (r : Room k A) : A.units + 64 < cLine := by have := r.un; omega
theorem cpow : CPow 10 18 := ⟨by decide, by decide, by decide⟩
instance szDec {n : Nat} {i : Int} : Decidable (Sz n i) := inferInstanceAs (Decidable (i.natAbs < 2 ^ n))
def absZ (i : Int) : Int := if i < 0 then -i else i
def spDraw (D : Int) (e : Nat) : Sp := fun vs H Q _ => ∃ (p c : Addr) (many : Int) (m : Nat), vs = [.ref p, .int many] ∧ Pen H p c m ∧ 0 < many ∧ many ≤ D ∧ m + e ≤ 1000000 ∧ ∀ d H', 0 ≤ d → d < many → But p H H' → Pen H' p c (m + e) → Q (.int d) H'
theorem sc_law_draw : FnScope ["_law_pen_here", "_law_many", "_law_digit", "_law_place", "_law_cell", "_law_mixed"] ["_law_pen_here", "_law_many"] (defScope s_law_draw) := ⟨rfl, rfl, rfl, by decide +kernel, rfl, by decide +kernel, by decide +kernel⟩
theorem draw_step {j : Nat} {D D' : Int} {e e' : Nat} (T : Txt K mg) (hD : D ≤ 10 ^ 24) (hD' : D ≤ 60000000 ∨ D / 60000000 + 1 ≤ D') (hs : D' ≤ 10 ^ 24) (he : e' + 1 ≤ e) (G_law_draw : Fn P w K mg base j (He.ga K "_law_draw") (spDraw D' e')) : Fn P w K mg base (j + 1) (He.ga K "_law_draw") (spDraw D e) := by
  obtain ⟨fd, F⟩ := T.d_law_draw
  refine okR F sc_law_draw (fun vs H Q E h => ?_) (fun _ _ _ _ _ _ us hl => match us, hl with | [_, _], _ => rfl) (fun cdv A outer s H vs Q E hr h => ⟨_, (pss_cons (ps_if (pt_cmpR op_gt (pe_dget (hu_of hr) (pv 0) pe_str (fun _ _ => rfl)) pe_int (nomark _)) (pss_cons (ps_set (i := 2) sc_law_draw.nd rfl (.inl rfl) (pe_op op_mod (pe_callTy call_int1 (by rfl) T.f_int (by decide +kernel) (pa_cons (pe_dget (hu_of hr) (pv 0) pe_str (fun _ _ => rfl)) pa_nil)) (pv 1)))
    (pss_cons (ps_dput (hu_of hr) (pv 0) pe_str (pe_op op_fdivW (pe_dget (hu_of hr) (pv 0) pe_str (fun _ _ => rfl)) (pv 1)) rfl)
    (pss_one (ps_ret (pv 2))))) pss_nil)
    (pss_cons (ps_set (i := 3) sc_law_draw.nd rfl (.inl rfl) (pe_dget (hu_of hr) (pv 0) pe_str (fun _ _ => rfl)))
    (pss_cons (ps_dput (hu_of hr) (pv 0) pe_str (pe_op op_add (pv 3) pe_int) rfl)
    (pss_cons (ps_set (i := 4) sc_law_draw.nd rfl (.inl rfl) (pe_op op_add (pe_op op_mulW pe_int (pv 3)) pe_int))
    (C8.pss_cut (ps_if (pt_cmpR (op_neD (u64_of hr)) (pe_dget (hu_of hr) (pv 0) pe_str (fun _ _ => rfl)) (pe_lst pa_nil) (nomark _)) (pss_one (ps_set (i := 4) sc_law_draw.nd rfl (.inl rfl) (pe_ix ix_list (pe_dget (hu_of hr) (pv 0) pe_str (fun _ _ => rfl)) (pe_op op_mod (pe_callTy call_int1 (by rfl) T.f_int (by decide +kernel) (pa_cons (pv 3) pa_nil)) (pe_callB call_len_seq (by rfl) T.f_len (by decide +kernel) (pa_cons (pe_dget (hu_of hr) (pv 0) pe_str (fun _ _ => rfl)) pa_nil))) (fun _ _ => rfl)))) pss_nil)
    (C8.pss_cut (ps_if (PW.pt (pw_and (pt_cmpR op_lt (pv 3) (pe_callB call_len_seq (by rfl) T.f_len (by decide +kernel) (pa_cons (pe_dget (hu_of hr) (pv 0) pe_str (fun _ _ => rfl)) pa_nil)) (nomark _)) (pw_and1 (pt_cmpR op_ge (pe_callB call_abs (by rfl) T.f_abs (by decide +kernel) (pa_cons (pv 4) pa_nil)) (pe_op op_pow pe_int pe_int) (nomark _))))) (pss_cons (ps_dput (hu_of hr) (pv 0) pe_str (pe_op op_fdivW (pe_op op_sub (pe_callB call_abs (by rfl) T.f_abs (by decide +kernel) (pa_cons (pv 4) pa_nil)) (pe_op op_pow pe_int pe_int)) (pv 1)) rfl)
    (pss_one (ps_ret (pe_op op_mod (pe_op op_sub (pe_callB call_abs (by rfl) T.f_abs (by decide +kernel) (pa_cons (pv 4) pa_nil)) (pe_op op_pow pe_int pe_int)) (pv 1))))) pss_nil)
    (pss_cons (ps_set (i := 5) sc_law_draw.nd rfl (.inl rfl) (pe_op op_mod (pe_callTy call_int1 (by rfl) T.f_int (by decide +kernel) (pa_cons (pe_op op_add (pe_op op_add (pe_op op_mulW (pe_op op_mod (pe_callTy call_int1 (by rfl) T.f_int (by decide +kernel) (pa_cons (pv 4) pa_nil)) pe_int) pe_int) (pe_op op_mulW (pe_op op_mulW pe_int (pv 3)) (pv 3))) pe_int) pa_nil)) pe_int))
    (pss_cons (ps_set (i := 5) sc_law_draw.nd rfl (.inl rfl) (pe_op op_mod (pe_callTy call_int1 (by rfl) T.f_int (by decide +kernel) (pa_cons (pe_op op_add (pe_op op_add (pe_op op_add (pe_op op_mulW (pv 5) (pv 5)) (pe_op op_mulW pe_int (pv 5))) (pe_op op_mulW pe_int (pv 3))) pe_int) pa_nil)) pe_int))
    (pss_cons (ps_set (i := 5) sc_law_draw.nd rfl (.inl rfl) (pe_op op_fdivW (pe_op op_mod (pe_callTy call_int1 (by rfl) T.f_int (by decide +kernel) (pa_cons (pe_op op_mulW (pv 5) (pe_op op_add (pv 5) pe_int)) pa_nil)) pe_int) pe_int))
    (C8.pss_cut (ps_if (pt_cmpR op_gt (pv 1) pe_int (nomark _)) (pss_one (ps_set (i := 5) sc_law_draw.nd rfl (.inl rfl) (pe_op op_add (pe_op op_mod (pe_callTy call_int1 (by rfl) T.f_int (by decide +kernel) (pa_cons (pv 5) pa_nil)) pe_int) (pe_op op_mulW pe_int (pe_callR G_law_draw hr T.g_law_draw (T.d_law_draw.elim fun _ F => F.kp) (pa_cons (pv 0) (pa_cons (pe_op op_add (pe_op op_fdivW (pv 1) pe_int) pe_int) pa_nil))))))) pss_nil)
    (pss_one (ps_ret (pe_op op_mod (pe_callTy call_int1 (by rfl) T.f_int (by decide +kernel) (pa_cons (pv 5) pa_nil)) (pv 1)))))))))))))), ?_⟩)
  · obtain ⟨p, c, many, m, rfl, _⟩ := h; rfl
  · obtain ⟨p, c, many, m, rfl, ⟨ns, b, r, hp, hc, hb0, hbm⟩, hm, hmD, hme, q⟩ := h
    have zm : Sz 100 many := Sz.of (by omega) (by omega)
    have hcp : c ≠ p := ne_of hc hp (by intro z; cases z)
    obtain ⟨gC, gB, gR⟩ := pen_gets hp
    refine ⟨_, rfl, p, _, rfl, gR, _, _, rfl, rfl, _, rfl, ite2 (fun _ => ?_) (fun _ => ?_)⟩
    · refine ⟨_, rfl, p, _, rfl, gR, .inl ⟨r, rfl, _, rfl, _, _, rfl, rfl, hm, ?_⟩⟩
      refine ⟨_, rfl, p, _, rfl, gR, _, rfl, _, _, rfl, rfl, zm.div hm (by decide), _, rfl, p, _, rfl, (pen_puts (b' := 0) hp).2, _, rfl, ?_⟩
      exact q _ _ (Int.emod_nonneg _ (by omega)) (Int.emod_lt_of_pos _ hm) (But.of (Same.refl H)).upd ⟨ns, b, _, upd_same, (upd_ne hcp).trans hc, hb0, by omega⟩
    · -- the next cell
      refine ⟨_, rfl, p, _, rfl, gB, ?_⟩
      have hp1 : (upd H p (.dK (PenF c (b + 1) r))) p = some (.dK (PenF c (b + 1) r)) := upd_same
      have hc1 : (upd H p (.dK (PenF c (b + 1) r))) c = some (.lst (ns.map V.int)) := (upd_ne hcp).trans hc
      have zb : Sz 20 b := Sz.of (by omega) (by omega)
      refine ⟨_, rfl, _, _, rfl, rfl, _, rfl, p, _, rfl, (pen_puts (r' := 0) hp).1, ?_⟩
      have b1 : But p H (upd H p (.dK (PenF c (b + 1) r))) := (But.of (Same.refl H)).upd
      generalize (upd H p (.dK (PenF c (b + 1) r))) = H1 at hp1 hc1 b1
      obtain ⟨gC1, gB1, gR1⟩ := pen_gets hp1
      refine ⟨_, rfl, _, _, rfl, rfl, Sz.mul (n := 6) (by decide) zb (by decide), _, _, rfl, rfl, ?_⟩
      -- the cell
      refine ⟨fun σ H' => ∃ (cell : Int) (z1 z2 : Option V), σ = [some (.ref p), some (.int many), z1, some (.int b), some (.int cell), z2] ∧ Same H1 H', ?_, fun σ H2 ⟨cell, z1, z2, eσ, e2⟩ => ?_⟩
      · refine ⟨_, rfl, p, _, rfl, gC1, Nat.zero_le _, fun l hl => ⟨.list (ns.map PyData.int), .list [], .lst (.inl (.inl (same_new hl _ _ hc1))) (dpAll_ints ns), .lst (.inl (.inl upd_same)) .nil, shaped_ints ns, rfl, ?_⟩⟩
        rw [eqv_nil]
        have e1 := same_new (o := .lst []) hl
        cases ns with
        | nil => exact ⟨_, rfl, iteF ⟨_, _, _, rfl, e1⟩⟩
        | cons n0 ns0 =>
          have hl0 : (0 : Int) < (((n0 :: ns0).map V.int).length : Nat) := by rw [List.length_map, List.length_cons]; omega
          obtain ⟨i, hi1, hi2⟩ : ∃ i : Nat, i < (n0 :: ns0).length ∧ b % (((n0 :: ns0).map V.int).length : Nat) = (i : Int) := by
            have h1 := Int.emod_nonneg b (Int.ne_of_gt hl0)
            have h2 := Int.emod_lt_of_pos b hl0
            rw [List.length_map] at h1 h2 ⊢
            exact ⟨(b % ((n0 :: ns0).length : Nat)).toNat, by omega, by omega⟩
          have hv : ((n0 :: ns0).map V.int)[i]? = some (.int ((n0 :: ns0)[i])) := by rw [List.getElem?_map, List.getElem?_eq_getElem hi1]; rfl
          obtain ⟨gC2, _, _⟩ := pen_gets (e1 _ _ hp1)
          refine ⟨_, rfl, iteT ⟨_, rfl, p, _, rfl, gC2, _, rfl, .inl ⟨b, rfl, _, rfl, p, _, rfl, gC2, c, _, rfl, .inl (.inl (.inl (e1 _ _ hc1))), _, _, rfl, rfl, hl0, ?_⟩⟩⟩
          dsimp only
          rw [hi2]
          exact ⟨c, _, i, _, rfl, rfl, .inl (.inl (e1 _ _ hc1)), atI_nat hv, _, _, _, rfl, e1⟩
      subst eσ
      have hp2 := e2 _ _ hp1
      have hc2 := e2 _ _ hc1
      obtain ⟨gC2, gB2, gR2⟩ := pen_gets hp2
      have b2 : But p H H2 := b1.same e2
      have hlast : ∀ {H3 : Hp}, But p H H3 → (∃ b' r', H3 p = some (.dK (PenF c b' r')) ∧ 0 ≤ b' ∧ b' ≤ ((m + e : Nat) : Int)) → H3 c = some (.lst (ns.map V.int)) → Pen H3 p c (m + e) := fun {H3} _ ⟨b', r', h1, h2, h3⟩ h4 => ⟨ns, b', r', h1, h4, h2, h3⟩
      refine ⟨fun σ H' => σ = [some (.ref p), some (.int many), z1, some (.int b), some (.int cell), z2] ∧ H' = H2, ?_, fun σ H3 ⟨eσ, eH⟩ => ?_⟩
      · refine ⟨_, rfl, _, rfl, p, _, rfl, gC2, c, _, rfl, .inl (.inl (.inl hc2)), _, _, rfl, rfl, _, rfl, ?_⟩
        refine ite2 (fun _ => ⟨_, rfl, _, rfl, _, _, rfl, rfl, cpow, _, _, rfl, rfl, _, rfl, ite2 (fun _ => ?_) (fun _ => ⟨rfl, rfl⟩)⟩) (fun _ => ⟨rfl, rfl⟩)
        refine ⟨_, rfl, _, rfl, _, _, rfl, rfl, cpow, _, _, rfl, rfl, _, rfl, _, _, rfl, rfl, zm.div hm (by decide), _, rfl, p, _, rfl, (pen_puts (b' := 0) hp2).2, ?_⟩
        refine ⟨_, rfl, _, rfl, _, _, rfl, rfl, cpow, _, _, rfl, rfl, _, rfl, _, _, rfl, rfl, hm, ?_⟩
        exact q _ _ (Int.emod_nonneg _ (by omega)) (Int.emod_lt_of_pos _ hm) b2.upd (hlast b2.upd ⟨_, _, upd_same, by omega, by omega⟩ ((upd_ne hcp).trans hc2))
      subst eσ
      rw [eH]
      -- mixed
      have z61 : Sz 32 (cell % 4294967279) := Sz.emod (by decide) (by decide)
      refine ⟨_, rfl, .inl ⟨_, rfl, _, _, rfl, rfl, (by decide : (0 : Int) < 4294967279), _, _, rfl, rfl, z61.mul (m := 17) (by decide) (by decide), _, rfl, _, _, rfl, rfl, Sz.mul (n := 16) (by decide) zb (by decide), _, rfl, _, _, rfl, rfl, (Sz.times (n := 16) (by decide) zb).mul zb (by decide), _, _, rfl, rfl, _, _, rfl, rfl, .inl ⟨_, rfl, _, _, rfl, rfl, (by decide : (0 : Int) < 4294967291), ?_⟩⟩⟩
      have zx1 : Sz 32 ((cell % 4294967279 * 69069 + 40503 * b * b + 101) % 4294967291) := Sz.emod (by decide) (by decide)
      dsimp only
      generalize (cell % 4294967279 * 69069 + 40503 * b * b + 101) % 4294967291 = x1 at zx1 ⊢
      refine ⟨_, rfl, _, rfl, _, _, rfl, rfl, zx1.mul zx1 (by decide), _, rfl, _, _, rfl, rfl, Sz.mul (n := 16) (by decide) zx1 (by decide), _, _, rfl, rfl, _, rfl, _, _, rfl, rfl, Sz.mul (n := 5) (by decide) zb (by decide), _, _, rfl, rfl, _, _, rfl, rfl, .inl ⟨_, rfl, _, _, rfl, rfl, (by decide : (0 : Int) < 4294967279), ?_⟩⟩
      have zx2 : Sz 32 ((x1 * x1 + 31337 * x1 + 17 * b + 3) % 4294967279) := Sz.emod (by decide) (by decide)
      dsimp only
      generalize (x1 * x1 + 31337 * x1 + 17 * b + 3) % 4294967279 = x2 at zx2 ⊢
      refine ⟨_, rfl, _, rfl, _, _, rfl, rfl, _, _, rfl, rfl, zx2.mul (Sz.add zx2 (by decide : Sz 32 65599)) (by decide), .inl ⟨_, rfl, _, _, rfl, rfl, (by decide : (0 : Int) < 4294967197), _, _, rfl, rfl, Sz.div (n := 7) (by decide) (by decide) (by decide), ?_⟩⟩
      dsimp only
      generalize x2 * (x2 + 65599) % 4294967197 / 64 = x3
      have P2 : Pen H2 p c (m + 1) := ⟨ns, b + 1, r, hp2, hc2, by omega, by omega⟩
      refine ⟨fun σ H' => ∃ (x4 : Int) (z1 z2 : Option V), σ = [some (.ref p), some (.int many), z1, some (.int b), z2, some (.int x4)] ∧ But p H H' ∧ Pen H' p c (m + e), ?_, fun σ H4 ⟨x4, z1, z2, eσ, b4, P4⟩ => ?_⟩
      · refine ⟨_, rfl, _, _, rfl, rfl, _, rfl, ite2 (fun hbig => ?_) (fun _ => ⟨x3, _, _, rfl, b2, P2.mono (by omega)⟩)⟩
        have hbig : (60000000 : Int) < many := of_decide_eq_true hbig
        have hD2 : D / 60000000 + 1 ≤ D' := hD'.resolve_left (by omega)
        refine ⟨_, rfl, .inl ⟨_, rfl, _, _, rfl, rfl, (by decide : (0 : Int) < 60000000), _, rfl, _, rfl, _, _, rfl, rfl, Sz.div (n := 26) (by decide) (by decide) (by decide), _, _, rfl, rfl, p, c, many / 60000000 + 1, m + 1, rfl, P2, ?_, ?_, by omega, fun d H4 d0 d1 b4 P4 => ?_⟩⟩
        · have := Int.ediv_nonneg (a := many) (b := 60000000) (by omega) (by decide)
          omega
        · have := Int.ediv_le_ediv (c := 60000000) (by decide) hmD
          omega
        · have hm2 : many / 60000000 ≤ many := Int.ediv_le_self _ (by omega)
          have zd : Sz 100 d := Sz.of (by omega) (by omega)
          refine ⟨_, _, rfl, rfl, Sz.mul (n := 26) (by decide) zd (by decide), _, _, rfl, rfl, _, _, _, rfl, fun x o h n => b4 x o (b2 x o h n) n, P4.mono (by omega)⟩
      subst eσ
      refine ⟨_, rfl, .inl ⟨_, rfl, _, rfl, _, _, rfl, rfl, hm, ?_⟩⟩
      exact q _ _ (Int.emod_nonneg _ (by omega)) (Int.emod_lt_of_pos _ hm) b4 P4
theorem ok_draw0 (T : Txt K mg) : Fn P w K mg base 1 (He.ga K "_law_draw") (spDraw 60000000 1) :=
  draw_step (e' := 0) (D' := 0) T (by decide) (.inl (Int.le_refl _)) (by decide) (by decide) fun A outer s H us vs Q E _ _ _ ⟨p, c, many, m, _, _, h1, h2, _⟩ => absurd h1 (by omega)
theorem ok_draw1 (T : Txt K mg) : Fn P w K mg base 2 (He.ga K "_law_draw") (spDraw 3599999999999999 2) :=
  draw_step T (by decide) (.inr (by decide)) (by decide) (by decide) (ok_draw0 T)
/-- every draw of the law -/
theorem ok_law_draw (T : Txt K mg) : Fn P w K mg base 3 (He.ga K "_law_draw") (spDraw (10 ^ 21) 3) :=
  draw_step T (by decide) (.inr (by decide)) (by decide) (by decide) (ok_draw1 T)
end PP
end
section
set_option maxHeartbeats 4000000
namespace PP
open PySem PySem.Spec PyProof.Rows L2 PR
variable {P : Program} {w : World} {K : PySem.W.Frag} {mg : Str → Option Value} {base : Heap}

open LamX NdefX
/-! ### pick, around, power, great -/
def spPick (K : PySem.W.Frag) : Sp := fun vs H Q _ => ∃ (p c : Addr) (m : Nat), Pen H p c m ∧ m + 3 ≤ 1000000 ∧
  ((∃ (a : Addr) (xs : List V), vs = [.ref p, .ref a] ∧ SqL K H a xs ∧ 0 < xs.length ∧ xs.length ≤ 1000 ∧ ∀ v H', v ∈ xs → But p H H' → Pen H' p c (m + 3) → Q v H') ∨
   (∃ z : Str, vs = [.ref p, .str z] ∧ 0 < z.cps.size ∧ z.cps.size ≤ 1000 ∧ ∀ ch H', ch ∈ z.cps.toList → But p H H' → Pen H' p c (m + 3) → Q (.str ⟨#[ch]⟩) H'))
theorem pen_sq {H H' : Hp} {p a c : Addr} {m : Nat} {xs : List V} (hP : Pen H p c m) (h : SqL K H a xs) (e : But p H H') : SqL K H' a xs := by
  obtain ⟨ns, b, r, hp, _⟩ := hP
  rcases h with (h | ⟨u, h⟩) | h
  · exact .inl (.inl (e _ _ h (ne_of h hp (by intro z; cases z))))
  · exact .inl (.inr ⟨u, e _ _ h (ne_of h hp (by intro z; cases z))⟩)
  · exact .inr h
theorem sc_law_pick : FnScope ["_law_pen_here", "_law_options"] ["_law_pen_here", "_law_options"] (defScope s_law_pick) := ⟨rfl, rfl, rfl, by decide +kernel, rfl, by decide +kernel, by decide +kernel⟩
theorem ok_law_pick (T : Txt K mg) : Fn P w K mg base 4 (He.ga K "_law_pick") (spPick K) := by
  obtain ⟨fd, F⟩ := T.d_law_pick
  have G_law_draw := ok_law_draw (P := P) (w := w) (base := base) T
  refine okR F sc_law_pick (fun vs H Q E h => ?_) (fun _ _ _ _ _ _ us hl => match us, hl with | [_, _], _ => rfl) (fun cdv A outer s H vs Q E hr h => ⟨_, (pss_one (ps_ret (pe_ix ix_seq (pv 1) (pe_callR G_law_draw (hr.mono (by decide)) T.g_law_draw (T.d_law_draw.elim fun _ F => F.kp) (pa_cons (pv 0) (pa_cons (pe_callB (call_len_seq.or call_len_str) (by rfl) T.f_len (by decide +kernel) (pa_cons (pv 1) pa_nil)) pa_nil))) (fun _ _ => rfl)))), ?_⟩)
  · obtain ⟨p, c, m, _, _, ⟨a, xs, rfl, _⟩ | ⟨z, rfl, _⟩⟩ := h <;> rfl
  · obtain ⟨p, c, m, hP, hm, ⟨a, xs, rfl, ha, h0, h1, q⟩ | ⟨z, rfl, h0, h1, q⟩⟩ := h
    · refine ⟨_, rfl, _, rfl, _, rfl, .inl ⟨a, xs, rfl, .inl ha, p, c, _, m, rfl, hP, by omega, by omega, hm, fun d H' d0 d1 b1 P1 => ?_⟩⟩
      obtain ⟨i, rfl⟩ := Int.eq_ofNat_of_zero_le d0
      have hi : i < xs.length := by omega
      exact .inl ⟨a, xs, i, _, rfl, rfl, pen_sq hP ha b1, atI_nat (List.getElem?_eq_getElem hi), q _ _ (List.getElem_mem hi) b1 P1⟩
    · have hz : z.length = z.cps.size := rfl
      have hzl : z.length ≤ sizeLine := Nat.le_trans (by omega : z.length ≤ 1000) (by decide)
      refine ⟨_, rfl, _, rfl, _, rfl, .inr ⟨z, rfl, hzl, p, c, _, m, rfl, hP, by omega, by omega, hm, fun d H' d0 d1 b1 P1 => ?_⟩⟩
      obtain ⟨i, rfl⟩ := Int.eq_ofNat_of_zero_le d0
      have hi : i < z.cps.toList.length := by rw [Array.length_toList]; omega
      exact .inr (.inr ⟨z, i, _, rfl, rfl, hzl, atI_nat (List.getElem?_eq_getElem hi), q _ _ (List.getElem_mem hi) b1 P1⟩)
def spAround : Sp := fun vs H Q _ => ∃ (p c : Addr) (m : Nat) (t : Int), vs = [.ref p, .int t] ∧ Pen H p c m ∧ m + 3 ≤ 1000000 ∧ 0 ≤ t ∧ t ≤ 10 ^ 20 ∧ ∀ v H', -t ≤ v → v ≤ t → But p H H' → Pen H' p c (m + 3) → Q (.int v) H'
theorem sc_law_around : FnScope ["_law_pen_here", "_law_most"] ["_law_pen_here", "_law_most"] (defScope s_law_around) := ⟨rfl, rfl, rfl, by decide +kernel, rfl, by decide +kernel, by decide +kernel⟩
theorem ok_law_around (T : Txt K mg) : Fn P w K mg base 4 (He.ga K "_law_around") spAround := by
  obtain ⟨fd, F⟩ := T.d_law_around
  have G_law_draw := ok_law_draw (P := P) (w := w) (base := base) T
  refine okR F sc_law_around (fun vs H Q E h => ?_) (fun _ _ _ _ _ _ us hl => match us, hl with | [_, _], _ => rfl) (fun cdv A outer s H vs Q E hr h => ⟨_, (pss_one (ps_ret (pe_op op_sub (pe_callR G_law_draw (hr.mono (by decide)) T.g_law_draw (T.d_law_draw.elim fun _ F => F.kp) (pa_cons (pv 0) (pa_cons (pe_op op_add (pe_op op_mulW pe_int (pv 1)) pe_int) pa_nil))) (pv 1)))), ?_⟩)
  · obtain ⟨p, c, m, t, rfl, _⟩ := h; rfl
  · obtain ⟨p, c, m, t, rfl, hP, hm, t0, t1, q⟩ := h
    have zt : Sz 100 t := Sz.of (by omega) (by omega)
    refine ⟨_, rfl, _, rfl, _, _, rfl, rfl, Sz.mul (n := 2) (by decide) zt (by decide), _, _, rfl, rfl, p, c, _, m, rfl, hP, ?_, ?_, hm, fun d H' d0 d1 b1 P1 => ⟨_, rfl, _, _, rfl, rfl, q _ _ (by omega) (by omega) b1 P1⟩⟩
    · show 0 < 2 * t + 1
      omega
    · show 2 * t + 1 ≤ 10 ^ 21
      omega
end PP
end
section
set_option maxHeartbeats 4000000
namespace PP
open PySem PySem.Spec PyProof.Rows L2 PR
variable {P : Program} {w : World} {K : PySem.W.Frag} {mg : Str → Option Value} {base : Heap}

open LamX NdefX
/-! ### power, great -/
theorem sz_pow10 {k : Nat} (h : k ≤ 100) : Sz 400 ((10 : Int) ^ k) := by
  have e : ((10 : Int) ^ k).natAbs = 10 ^ k := by rw [Int.natAbs_pow]; rfl
  unfold Sz
  rw [e]
  exact Nat.lt_of_le_of_lt (Nat.pow_le_pow_right (by decide) h) (by decide)
def spPower : Sp := fun vs H Q _ => ∃ k : Nat, vs = [.int k] ∧ k ≤ 100 ∧ Q (.int (10 ^ k)) H
theorem sc_law_power : FnScope ["_law_figures", "_law_found", "_law_k"] ["_law_figures"] (defScope s_law_power) := ⟨rfl, rfl, rfl, by decide +kernel, rfl, by decide +kernel, by decide +kernel⟩
theorem ok_law_power (T : Txt K mg) : Fn P w K mg base 1 (He.ga K "_law_power") spPower := by
  obtain ⟨fd, F⟩ := T.d_law_power
  refine okR F sc_law_power (fun vs H Q E h => ?_) (fun _ _ _ _ _ _ us hl => match us, hl with | [_], _ => rfl) (fun cdv A outer s H vs Q E hr h => ⟨_, (pss_cons (ps_set (i := 1) sc_law_power.nd rfl (.inl rfl) pe_int)
    (pss_cons (ps_for PassesOwn.never rfl (pi_range1 (by rfl) T.f_range (pa_cons (pv 0) pa_nil)) (pg_name (i := 2) sc_law_power.nd rfl (.inl rfl)) (pss_one (ps_set (i := 1) sc_law_power.nd rfl (.inl rfl) (pe_op op_mulW (pv 1) pe_int))))
    (pss_one (ps_ret (pv 1))))), ?_⟩)
  · obtain ⟨k, rfl, _⟩ := h; rfl
  · obtain ⟨k, rfl, hk, q⟩ := h
    refine ⟨_, rfl, (k : Int), rfl, by omega, by omega, ?_⟩
    refine for_it walk_range (fun i σ H' => H' = H ∧ ∃ z, σ = [some (.int k), some (.int (10 ^ i)), z]) ⟨rfl, _, rfl⟩ (fun _ _ _ _ _ => trivial) (fun i x σ Hc H' hi ⟨eH, z, eσ⟩ y => ?_) (fun σ H' ⟨eH, z, eσ⟩ => ?_)
    · obtain ⟨rfl, rfl⟩ := y
      subst eσ
      refine ⟨_, rfl, _, _, rfl, rfl, (sz_pow10 (k := i) (by have : i < k := hi; omega)).mul (m := 4) (by decide) (by decide), eH, _, rfl⟩
    · subst eσ
      rw [eH]
      exact ⟨_, rfl, q⟩
theorem pen_bt {H H1 H2 : Hp} {p : Addr} (a : But p H H1) (b : But p H1 H2) : But p H H2 := fun x o h n => b x o (a x o h n) n
def spGreat : Sp := fun vs H Q _ => ∃ (p c : Addr) (m k : Nat), vs = [.ref p, .int k] ∧ Pen H p c m ∧ m + 18 ≤ 1000000 ∧ 2 ≤ k ∧ k ≤ 20 ∧ ∀ v H', 0 ≤ v → v < 10 ^ k → But p H H' → Pen H' p c (m + 18) → Q (.int v) H'
theorem sc_law_great : FnScope ["_law_pen_here", "_law_figures", "_law_most", "_law_some"] ["_law_pen_here", "_law_figures"] (defScope s_law_great) := ⟨rfl, rfl, rfl, by decide +kernel, rfl, by decide +kernel, by decide +kernel⟩
theorem ok_law_great (T : Txt K mg) : Fn P w K mg base 5 (He.ga K "_law_great") spGreat := by
  obtain ⟨fd, F⟩ := T.d_law_great
  have G_law_pick := ok_law_pick (P := P) (w := w) (base := base) T
  have G_law_draw := ok_law_draw (P := P) (w := w) (base := base) T
  have G_law_power := ok_law_power (P := P) (w := w) (base := base) T
  refine okR F sc_law_great (fun vs H Q E h => ?_) (fun _ _ _ _ _ _ us hl => match us, hl with | [_, _], _ => rfl) (fun cdv A outer s H vs Q E hr h => ⟨_, (pss_cons (ps_set (i := 2) sc_law_great.nd rfl (.inl rfl) (pe_callR G_law_power (hr.mono (by decide)) T.g_law_power (T.d_law_power.elim fun _ F => F.kp) (pa_cons (pv 1) pa_nil)))
    (pss_cons (ps_set (i := 3) sc_law_great.nd rfl (.inl rfl) (pe_lst (pa_cons (pe_callR G_law_draw (hr.mono (by decide)) T.g_law_draw (T.d_law_draw.elim fun _ F => F.kp) (pa_cons (pv 0) (pa_cons pe_int pa_nil))) (pa_cons (pe_callR G_law_draw (hr.mono (by decide)) T.g_law_draw (T.d_law_draw.elim fun _ F => F.kp) (pa_cons (pv 0) (pa_cons (pv 2) pa_nil))) (pa_cons (pe_callR G_law_draw (hr.mono (by decide)) T.g_law_draw (T.d_law_draw.elim fun _ F => F.kp) (pa_cons (pv 0) (pa_cons (pv 2) pa_nil))) pa_nil)))))
    (pss_one (ps_ret (pe_callR G_law_pick (hr.mono (by decide)) T.g_law_pick (T.d_law_pick.elim fun _ F => F.kp) (pa_cons (pv 0) (pa_cons (pe_op op_cat (pv 3) (pe_lst (pa_cons (pe_op op_add (pe_op op_fdivW (pv 2) pe_int) (pe_callR G_law_draw (hr.mono (by decide)) T.g_law_draw (T.d_law_draw.elim fun _ F => F.kp) (pa_cons (pv 0) (pa_cons pe_int pa_nil)))) (pa_cons (pe_op op_sub (pe_op op_sub (pv 2) pe_int) (pe_callR G_law_draw (hr.mono (by decide)) T.g_law_draw (T.d_law_draw.elim fun _ F => F.kp) (pa_cons (pv 0) (pa_cons pe_int pa_nil)))) pa_nil)))) pa_nil))))))), ?_⟩)
  · obtain ⟨p, c, m, k, rfl, _⟩ := h; rfl
  · obtain ⟨p, c, m, k, rfl, hP, hm, h2, h20, q⟩ := h
    have zk := sz_pow10 (k := k) (by omega)
    have hlo : (100 : Int) ≤ 10 ^ k := by
      have : (10 : Int) ^ 2 ≤ 10 ^ k := by
        have := Nat.pow_le_pow_right (n := 10) (by decide) h2
        exact_mod_cast this
      exact this
    have hhi : (10 : Int) ^ k ≤ 10 ^ 21 := by
      have : (10 : Int) ^ k ≤ 10 ^ 20 := by
        have := Nat.pow_le_pow_right (n := 10) (by decide) h20
        exact_mod_cast this
      omega
    refine ⟨_, rfl, k, rfl, by omega, ?_⟩
    generalize (10 : Int) ^ k = M at zk hlo hhi q ⊢
    refine ⟨_, rfl, p, c, _, m, rfl, hP, by decide, by decide, by omega, fun d1 H1 a1 g1 b1 P1 => ?_⟩
    refine ⟨_, rfl, _, rfl, p, c, _, _, rfl, P1, by omega, hhi, by omega, fun d2 H2 a2 g2 b2 P2 => ?_⟩
    refine ⟨_, rfl, _, rfl, p, c, _, _, rfl, P2, by omega, hhi, by omega, fun d3 H3 a3 g3 b3 P3 => ?_⟩
    refine ⟨by show 3 ≤ sizeLine; decide, fun l hl => ?_⟩
    have e4 := same_new (o := .lst [.int d1, .int d2, .int d3]) hl
    refine ⟨_, rfl, _, rfl, _, rfl, _, _, rfl, rfl, Sz.div (n := 4) (by decide) (by decide) (by decide), _, rfl, p, c, _, _, rfl, P3.same e4, by decide, by decide, by omega, fun d5 H5 a5 c5 b5 P5 => ⟨_, _, rfl, rfl, ?_⟩⟩
    refine ⟨_, rfl, _, _, rfl, rfl, _, rfl, p, c, _, _, rfl, P5, by decide, by decide, by omega, fun d6 H6 a6 c6 b6 P6 => ⟨_, _, rfl, rfl, by show 2 ≤ sizeLine; decide, fun l2 hl2 => ?_⟩⟩
    have e7 := same_new (o := .lst [.int (M / 10 + d5), .int (M - 1 - d6)]) hl2
    obtain ⟨_, _, _, hpP, _⟩ := id P3
    have hlp : l ≠ p := fun z => by rw [z, hpP] at hl; cases hl
    have hl6 := b6 _ _ (b5 _ _ (upd_same (H := H3) (a := l) (o := .lst [.int d1, .int d2, .int d3])) hlp) hlp
    refine ⟨l, l2, _, _, rfl, rfl, e7 _ _ hl6, upd_same, by show 3 + 2 ≤ sizeLine; decide, fun r hr => ?_⟩
    have e8 := same_new (o := .lst ([.int d1, .int d2, .int d3] ++ [.int (M / 10 + d5), .int (M - 1 - d6)])) hr
    refine ⟨p, c, _, (P6.same e7).same e8, by omega, .inl ⟨r, _, rfl, .inl (.inl upd_same), by show 0 < 3 + 2; decide, by show 3 + 2 ≤ 1000; decide, fun v H9 hv b9 P9 => ?_⟩⟩
    have bb : But p H H9 := pen_bt b1 (pen_bt b2 (pen_bt b3 (pen_bt (But.of e4) (pen_bt b5 (pen_bt b6 (pen_bt (But.of e7) (pen_bt (But.of e8) b9)))))))
    have hd : M / 10 + 6 < M := by omega
    have h0 : 0 ≤ M / 10 := by omega
    have hv : v ∈ [V.int d1, .int d2, .int d3, .int (M / 10 + d5), .int (M - 1 - d6)] := hv
    simp only [List.mem_cons, List.not_mem_nil, or_false] at hv
    rcases hv with rfl | rfl | rfl | rfl | rfl
    · exact q _ _ a1 (by omega) bb P9
    · exact q _ _ a2 g2 bb P9
    · exact q _ _ a3 g3 bb P9
    · exact q _ _ (by omega) (by omega) bb P9
    · exact q _ _ (by omega) (by omega) bb P9
end PP
end
section
set_option maxHeartbeats 4000000
namespace PP
open PySem PySem.Spec PyProof.Rows L2 PR
variable {P : Program} {w : World} {K : PySem.W.Frag} {mg : Str → Option Value} {base : Heap}

open LamX NdefX
/-! ### the law's names -/
theorem app_S (a b : List Nat) : SX.S a ++ SX.S b = SX.S (a ++ b) := by
  show Str.mk (a.toArray ++ b.toArray) = Str.mk (a ++ b).toArray
  rw [List.append_toArray]
theorem but_none {p c d : Addr} {m : Nat} {H H' : Hp} (e : But p H H') (hP : Pen H' p c m) (h : H' d = none) : H d = none := by
  obtain ⟨_, _, _, hp, _⟩ := hP
  cases q : H d with
  | none => rfl
  | some u =>
    have hd : d ≠ p := fun z => by rw [z, hp] at h; cases h
    rw [e d u q hd] at h; cases h
theorem but_put {p d : Addr} {H H' : Hp} {o : HO} (e : But p H H') (h : H d = none) : But p H (upd H' d o) := fun x u hx n => (upd_ne (ne_of_none hx h)).trans (e x u hx n)
theorem Pen.ne {p c d : Addr} {m : Nat} {H : Hp} (h : Pen H p c m) (hd : H d = none) : p ≠ d ∧ c ≠ d := by
  obtain ⟨ns, b, r, h1, h2, h3, h4⟩ := h
  exact ⟨ne_of_none h1 hd, ne_of_none h2 hd⟩
theorem Pen.put {p c d : Addr} {m : Nat} {H : Hp} {o : HO} (h : Pen H p c m) (n : p ≠ d ∧ c ≠ d) : Pen (upd H d o) p c m := by
  obtain ⟨ns, b, r, h1, h2, h3, h4⟩ := h
  exact ⟨ns, b, r, (upd_ne n.1).trans h1, (upd_ne n.2).trans h2, h3, h4⟩
theorem joinL_one : ∀ cs : List Nat, TL.joinL [] (cs.map fun c => [c]) = cs
  | [] => rfl
  | [c] => rfl
  | c :: d :: r => by
    show [c] ++ ([] ++ TL.joinL [] ((d :: r).map fun c => [c])) = c :: d :: r
    rw [joinL_one (d :: r)]; rfl
theorem join_one (cs : List Nat) : Txt.join "" (cs.map fun c => SX.S [c]) = SX.S cs := by
  have z := SX.join_S [] (cs.map fun c => [c])
  rw [joinL_one, List.map_map] at z
  exact z
theorem sum_one : ∀ cs : List Nat, ((cs.map fun c => SX.S [c]).map (·.length)).sum = cs.length
  | [] => rfl
  | c :: r => by
    show 1 + ((r.map fun c => SX.S [c]).map (·.length)).sum = r.length + 1
    rw [sum_one r]; omega
/-- the letter of a number -/
def ltr (i : Int) : Nat := abc.cps.toList.getD i.toNat 0
theorem ltr_at {i : Int} (h0 : 0 ≤ i) (h1 : i < 26) : atI abc.cps.toList i = some (ltr i) := by
  obtain ⟨n, rfl⟩ := Int.eq_ofNat_of_zero_le h0
  have hn : n < abc.cps.toList.length := by
    have : abc.cps.toList.length = 26 := by decide +kernel
    omega
  refine atI_nat ?_
  unfold ltr
  rw [List.getD_eq_getElem?_getD, Int.toNat_natCast, List.getElem?_eq_getElem hn]; rfl
theorem ltr_mem {i : Int} (h0 : 0 ≤ i) (h1 : i < 26) : ltr i ∈ abc.cps.toList := by
  obtain ⟨n, rfl⟩ := Int.eq_ofNat_of_zero_le h0
  have hn : n < abc.cps.toList.length := by
    have : abc.cps.toList.length = 26 := by decide +kernel
    omega
  unfold ltr
  rw [List.getD_eq_getElem?_getD, Int.toNat_natCast, List.getElem?_eq_getElem hn]
  exact List.getElem_mem hn
theorem ltr_inj {i j : Int} (h0 : 0 ≤ i) (h1 : i < 26) (g0 : 0 ≤ j) (g1 : j < 26) (h : ltr i = ltr j) : i = j := by
  obtain ⟨a, rfl⟩ := Int.eq_ofNat_of_zero_le h0
  obtain ⟨b, rfl⟩ := Int.eq_ofNat_of_zero_le g0
  have key : ∀ a b : Fin 26, abc.cps.toList.getD a.val 0 = abc.cps.toList.getD b.val 0 → a = b := by decide +kernel
  have := key ⟨a, by omega⟩ ⟨b, by omega⟩ h
  have := congrArg Fin.val this
  simp only at this
  omega
def steps : List Int := [1, 3, 5, 7, 9, 11, 15, 17, 19, 21, 23, 25]
theorem steps_inj {f s : Int} (hs : s ∈ steps) {i j : Nat} (hi : i < 4) (hj : j < 4) (h : (f + s * i) % 26 = (f + s * j) % 26) : i = j := by
  unfold steps at hs
  simp only [List.mem_cons, List.not_mem_nil, or_false] at hs
  have key : ∀ a b : Fin 4, ∀ s ∈ steps, (s * (a.val : Int) - s * (b.val : Int)) % 26 = 0 → a = b := by decide +kernel
  have h2 : (s * (i : Int) - s * (j : Int)) % 26 = 0 := by
    have := Int.emod_emod_of_dvd (f + s * i - (f + s * j)) (Int.dvd_refl 26)
    have h3 : (f + s * i - (f + s * j)) % 26 = 0 := Int.emod_eq_zero_of_dvd (Int.dvd_of_emod_eq_zero (by
      rw [Int.sub_emod, h]; simp))
    rw [← h3]
    congr 1
    omega
  have := key ⟨i, hi⟩ ⟨j, hj⟩ s (by unfold steps; simp only [List.mem_cons, List.not_mem_nil, or_false]; exact hs) h2
  exact congrArg Fin.val this
/-- the k-th name -/
def nmK (st : List Nat) (f s : Int) (k : Nat) : Str := if st.length % 2 = 0 then SX.S (st ++ [ltr ((f + s * k) % 26)]) else SX.S ([ltr ((f + s * k) % 26)] ++ st)
theorem nmK_ok {st : List Nat} {f s : Int} {k : Nat} (hl : st.length ≤ 6) (hm : ∀ c ∈ st, c ∈ abc.cps.toList) : NameOk (nmK st f s k) := by
  have h0 := Int.emod_nonneg (f + s * k) (by decide : (26 : Int) ≠ 0)
  have h1 := Int.emod_lt_of_pos (f + s * k) (by decide : (0 : Int) < 26)
  have hm2 := ltr_mem h0 h1
  unfold nmK
  split
  · refine ⟨?_, ?_, fun c hc => ?_⟩
    · show 1 ≤ ((st ++ [_]).toArray).size
      simp
    · show ((st ++ [_]).toArray).size ≤ 8
      simp; omega
    · have hc : c ∈ st ++ [ltr ((f + s * k) % 26)] := hc
      rcases List.mem_append.mp hc with z | z
      · exact hm c z
      · rw [List.mem_singleton.mp z]; exact hm2
  · refine ⟨?_, ?_, fun c hc => ?_⟩
    · show 1 ≤ (([_] ++ st).toArray).size
      simp
    · show (([_] ++ st).toArray).size ≤ 8
      simp; omega
    · have hc : c ∈ [ltr ((f + s * k) % 26)] ++ st := hc
      rcases List.mem_append.mp hc with z | z
      · rw [List.mem_singleton.mp z]; exact hm2
      · exact hm c z
theorem nmK_inj {st : List Nat} {f s : Int} (hs : s ∈ steps) {i j : Nat} (hi : i < 4) (hj : j < 4) (h : nmK st f s i = nmK st f s j) : i = j := by
  have r : ∀ k : Nat, 0 ≤ (f + s * k) % 26 ∧ (f + s * k) % 26 < 26 := fun k => ⟨Int.emod_nonneg _ (by decide), Int.emod_lt_of_pos _ (by decide)⟩
  have e : ltr ((f + s * i) % 26) = ltr ((f + s * j) % 26) := by
    unfold nmK at h
    split at h
    · have := SX.S_inj h
      exact List.head_eq_of_cons_eq (List.append_cancel_left this)
    · have := SX.S_inj h
      exact List.head_eq_of_cons_eq this
  exact steps_inj hs hi hj (ltr_inj (r i).1 (r i).2 (r j).1 (r j).2 e)
def spNames (K : PySem.W.Frag) : Sp := fun vs H Q _ => ∃ (p c : Addr) (m many : Nat), vs = [.ref p, .int many] ∧ Pen H p c m ∧ m + 30 ≤ 1000000 ∧ many ≤ 4 ∧
  ∀ (a : Addr) (zs : List Str) H', But p H H' → H a = none → H' a = some (.lst (zs.map V.str)) → zs.length = many → zs.Nodup → (∀ z ∈ zs, NameOk z) → Pen H' p c (m + 30) → Q (.ref a) H'
theorem sc_law_names : FnScope ["_law_pen_here", "_law_many", "_law_letters", "_law_stem", "_law_k", "_law_front", "_law_found", "_law_step", "_law_own", "_law_tail"] ["_law_pen_here", "_law_many"] (defScope s_law_names) := ⟨rfl, rfl, rfl, by decide +kernel, rfl, by decide +kernel, by decide +kernel⟩
theorem ok_law_names (T : Txt K mg) : Fn P w K mg base 5 (He.ga K "_law_names") (spNames K) := by
  obtain ⟨fd, F⟩ := T.d_law_names
  have G_law_pick := ok_law_pick (P := P) (w := w) (base := base) T
  have G_law_draw := ok_law_draw (P := P) (w := w) (base := base) T
  refine okR F sc_law_names (fun vs H Q E h => ?_) (fun _ _ _ _ _ _ us hl => match us, hl with | [_, _], _ => rfl) (fun cdv A outer s H vs Q E hr h => ⟨_, (pss_cons (ps_set (i := 2) sc_law_names.nd rfl (.inr rfl) pe_str)
    (pss_cons (ps_set (i := 3) sc_law_names.nd rfl (.inl rfl) (pe_join pe_str (pe_lc (own := [("_law_k", 4)]) rfl sc_law_names.nd (pi_range1 (by rfl) T.f_range (pa_cons (pe_callR G_law_draw (hr.mono (by decide)) T.g_law_draw (T.d_law_draw.elim fun _ F => F.kp) (pa_cons (pv 0) (pa_cons pe_int pa_nil))) pa_nil)) (blkOk_by (own := [("_law_k", 4)]) (N := ["_law_pen_here", "_law_many", "_law_letters", "_law_stem", "_law_k", "_law_front", "_law_found", "_law_step", "_law_own", "_law_tail"]) (sc := defScope s_law_names) (by decide +kernel)) (fun _ _ _ _ _ => (pg_name (i := 4) sc_law_names.nd rfl (.inl rfl) (hf := .inr rfl))) (fun _ _ _ _ _ => pts_nil) (fun _ _ _ _ _ => (pe_callR G_law_pick (hr.mono (by decide)) T.g_law_pick (T.d_law_pick.elim fun _ F => F.kp) (pa_cons (pv 0) (pa_cons (pv 2) pa_nil)))))))
    (pss_cons (ps_par (i := 5) (j := 6) (by rfl) sc_law_names.nd rfl rfl (by decide) rfl rfl (pa_cons (pe_callR G_law_draw (hr.mono (by decide)) T.g_law_draw (T.d_law_draw.elim fun _ F => F.kp) (pa_cons (pv 0) (pa_cons pe_int pa_nil))) (pa_cons (pe_lst pa_nil) pa_nil)) (by rfl))
    (pss_cons (ps_set (i := 7) sc_law_names.nd rfl (.inl rfl) (pe_callR G_law_pick (hr.mono (by decide)) T.g_law_pick (T.d_law_pick.elim fun _ F => F.kp) (pa_cons (pv 0) (pa_cons (pe_lst (pa_cons pe_int (pa_cons pe_int (pa_cons pe_int (pa_cons pe_int (pa_cons pe_int (pa_cons pe_int (pa_cons pe_int (pa_cons pe_int (pa_cons pe_int (pa_cons pe_int (pa_cons pe_int (pa_cons pe_int pa_nil))))))))))))) pa_nil))))
    (pss_cons (ps_for PassesOwn.never rfl (pi_range1 (by rfl) T.f_range (pa_cons (pv 1) pa_nil)) (pg_name (i := 4) sc_law_names.nd rfl (.inl rfl)) (pss_cons (ps_set (i := 8) sc_law_names.nd rfl (.inl rfl) (pe_ix ix_str (pv 2) (pe_op op_mod (pe_callTy call_int1 (by rfl) T.f_int (by decide +kernel) (pa_cons (pe_op op_add (pv 5) (pe_op op_mulW (pv 7) (pv 4))) pa_nil)) pe_int) (fun _ _ => rfl)))
    (pss_cons (ps_set (i := 9) sc_law_names.nd rfl (.inl rfl) (pe_ifExp (pt_cmpR op_lt (pv 4) pe_int (nomark _)) pe_str (pe_callR G_law_pick (hr.mono (by decide)) T.g_law_pick (T.d_law_pick.elim fun _ F => F.kp) (pa_cons (pv 0) (pa_cons (pv 2) pa_nil)))))
    (pss_one (ps_expr (pe_bm PySem.F.plainAttrs_list PySem.F.slot_list_append PySem.F.type_list_append mt_append (pv 6) (pa_cons (pe_op op_add_str (pe_ix ix_list (pe_lst (pa_cons (pe_op op_add_str (pv 3) (pv 8)) (pa_cons (pe_op op_add_str (pv 8) (pv 3)) pa_nil))) (pe_op op_mod (pe_callB call_len_str (by rfl) T.f_len (by decide +kernel) (pa_cons (pv 3) pa_nil)) pe_int) (fun _ _ => rfl)) (pv 9)) pa_nil)))))))
    (pss_one (ps_ret (pv 6)))))))), ?_⟩)
  · obtain ⟨p, c, m, many, rfl, _⟩ := h; rfl
  · obtain ⟨p, c, m, many, rfl, hP, hm, h4, q⟩ := h
    refine ⟨⟨_, rfl⟩, _, rfl, p, c, _, m, rfl, hP, by decide, by decide, by omega, fun d H1 d0 d7 b1 P1 => ⟨d, rfl, by omega, by omega, fun D hD => ?_⟩⟩
    have hDH := but_none b1 P1 hD
    have nD := hP.ne hDH
    have lz : abc.length ≤ sizeLine := Nat.le_trans (by decide +kernel : abc.length ≤ 26) (by decide)
    refine lc_it (n := d.toNat) walk_range (fun i H' => But p H H' ∧ Pen H' p c (m + 3 + 3 * i) ∧ ∃ cs : List Nat, H' D = some (.lst ((cs.map fun c => SX.S [c]).map V.str)) ∧ cs.length = i ∧ ∀ c ∈ cs, c ∈ abc.cps.toList)
      ⟨but_put b1 hDH, P1.put nD, [], upd_same, rfl, fun c hc => (by cases hc)⟩ (fun _ _ _ _ => trivial) (fun i x Hc H' hi ⟨bC, PC, cs, hDC, hcl, hcm⟩ y => ?_) (fun H2 ⟨b2, P2, cs, hD2, hcl, hcm⟩ => ?_)
    · obtain ⟨rfl, rfl⟩ := y
      refine ⟨rfl, _, rfl, _, rfl, p, c, _, PC, by omega, .inr ⟨abc, rfl, by decide +kernel, by decide +kernel, fun ch H4 hch b4 P4 => ?_⟩⟩
      refine ⟨_, b4 _ _ hDC nD.1.symm, ?_, but_put (pen_bt bC b4) hDH, (P4.put nD).mono (by omega), cs ++ [ch], ?_, ?_, fun c' hc' => ?_⟩
      · rw [List.length_map, List.length_map, hcl]
        exact Nat.lt_of_lt_of_le (by omega : i < 100) (by decide)
      · rw [upd_same, List.map_append, List.map_append]; rfl
      · rw [List.length_append, hcl]; rfl
      · rcases List.mem_append.mp hc' with z | z
        · exact hcm _ z
        · rw [List.mem_singleton.mp z]; exact hch
    have hl6 : cs.length ≤ 6 := by omega
    refine ⟨"", D, _, rfl, rfl, .inl (.inl (.inl hD2)), ?_, ?_⟩
    · rw [sum_one, List.length_map]
      show cs.length + cs.length * 0 ≤ 16777216
      omega
    rw [join_one]
    -- front, found
    refine ⟨_, rfl, p, c, _, _, rfl, P2, by decide, by decide, by omega, fun front H3 f0 f26 b3 P3 => ⟨by show 0 ≤ sizeLine; decide, fun fa hfa => ?_⟩⟩
    have bb3 := pen_bt b2 b3
    have hfH := but_none bb3 P3 hfa
    have nF := hP.ne hfH
    have bb4 : But p H (upd H3 fa (.lst [])) := but_put bb3 hfH
    have P4 : Pen (upd H3 fa (.lst [])) p c (m + 3 + 3 * d.toNat + 3) := P3.put nF
    have hF4 : (upd H3 fa (.lst [])) fa = some (.lst []) := upd_same
    generalize (upd H3 fa (.lst [])) = H4 at bb4 P4 hF4 ⊢
    -- step
    refine ⟨_, _, rfl, _, rfl, by show 12 ≤ sizeLine; decide, fun l hl => ?_⟩
    have e5 := same_new (o := .lst (steps.map V.int)) hl
    refine ⟨p, c, _, P4.same e5, by omega, .inl ⟨l, steps.map V.int, rfl, .inl (.inl upd_same), by decide, by decide, fun v H6 hv b6 P6 => ?_⟩⟩
    obtain ⟨s, hs, rfl⟩ := List.mem_map.mp hv
    have bb6 := pen_bt bb4 (pen_bt (But.of e5) b6)
    have hF6 := b6 _ _ (e5 _ _ hF4) nF.1.symm
    have zs : Sz 5 s := by
      have : ∀ s ∈ steps, s.natAbs < 2 ^ 5 := by decide
      exact this s hs
    -- the names
    refine ⟨_, rfl, (many : Int), rfl, by omega, by omega, ?_⟩
    refine for_it (n := many) walk_range (fun i σ H' => But p H H' ∧ Pen H' p c (m + 27) ∧ H' fa = some (.lst (((List.range i).map (nmK cs front s)).map V.str)) ∧ ∃ z4 z8 z9, σ = [some (.ref p), some (.int many), some (.str abc), some (.str (SX.S cs)), z4, some (.int front), some (.ref fa), some (.int s), z8, z9])
      ⟨bb6, P6.mono (by omega), hF6, _, _, _, rfl⟩ (fun _ _ _ _ _ => trivial) (fun i x σ Hc H' hi ⟨bC, PC, hFC, z4, z8, z9, eσ⟩ y => ?_) (fun σ H7 ⟨b7, P7, hF7, z4, z8, z9, eσ⟩ => ?_)
    · obtain ⟨rfl, ex⟩ := y
      have ex : x = .int (i : Int) := ex.trans (congrArg V.int (Int.zero_add _))
      subst ex
      subst eσ
      have m0 := Int.emod_nonneg (front + s * i) (by decide : (26 : Int) ≠ 0)
      have m1 := Int.emod_lt_of_pos (front + s * i) (by decide : (0 : Int) < 26)
      have zi : Sz 5 (i : Int) := Sz.of (by omega) (by omega)
      refine ⟨_, rfl, _, rfl, _, rfl, _, rfl, _, _, rfl, rfl, zs.mul zi (by decide), _, _, rfl, rfl, .inl ⟨_, rfl, _, _, rfl, rfl, (by decide : (0 : Int) < 26), abc, (front + s * i) % 26, ltr ((front + s * i) % 26), rfl, rfl, lz, ltr_at m0 m1, ?_⟩⟩
      have hi4 : i < 4 := Nat.lt_of_lt_of_le hi h4
      have e6 : ((i : Int) < 26) := by omega
      refine ⟨_, rfl, _, _, rfl, rfl, true, congrArg V.bl (decide_eq_true e6), ?_⟩
      have len1 : (SX.S cs).length ≤ 6 := hl6
      have lenO : (SX.S [ltr ((front + s * i) % 26)]).length = 1 := rfl
      have two : (6 : Nat) + 1 ≤ sizeLine := by decide
      refine ⟨_, rfl, .inl ⟨rfl, _, .inl (.inl hFC)⟩, ?_⟩
      refine ⟨_, rfl, _, rfl, SX.S cs, SX.S [ltr ((front + s * i) % 26)], rfl, rfl, by rw [lenO]; omega, _, rfl, _, rfl, SX.S [ltr ((front + s * i) % 26)], SX.S cs, rfl, rfl, by rw [lenO]; omega, by show 2 ≤ sizeLine; decide, fun l2 hl2 => ?_⟩
      have e7 := same_new (o := .lst [.str (SX.S cs ++ SX.S [ltr ((front + s * i) % 26)]), .str (SX.S [ltr ((front + s * i) % 26)] ++ SX.S cs)]) hl2
      refine ⟨_, rfl, SX.S cs, rfl, by omega, _, _, rfl, rfl, (by decide : (0 : Int) < 2), ?_⟩
      have hnm : atI [V.str (SX.S cs ++ SX.S [ltr ((front + s * i) % 26)]), V.str (SX.S [ltr ((front + s * i) % 26)] ++ SX.S cs)] (((SX.S cs).length : Nat) % 2 : Int) = some (.str (nmK cs front s i)) := by
        have hc : (SX.S cs).length = cs.length := rfl
        rw [hc]
        unfold nmK
        by_cases h2 : cs.length % 2 = 0
        · rw [if_pos h2, app_S]
          have : ((cs.length : Nat) : Int) % 2 = ((0 : Nat) : Int) := by omega
          rw [this]
          exact atI_nat rfl
        · rw [if_neg h2, app_S, app_S]
          have : ((cs.length : Nat) : Int) % 2 = ((1 : Nat) : Int) := by omega
          rw [this]
          exact atI_nat rfl
      refine ⟨l2, _, _, _, rfl, rfl, .inl (.inl upd_same), hnm, _, rfl, _, _, rfl, rfl, ?_, ?_⟩
      · have := (nmK_ok (f := front) (s := s) (k := i) hl6 hcm).l8
        show (nmK cs front s i).length + 0 ≤ sizeLine
        exact Nat.le_trans (by omega : (nmK cs front s i).length + 0 ≤ 8) (by decide)
      · have eA : nmK cs front s i ++ ("" : Str) = nmK cs front s i := by
          show Str.mk ((nmK cs front s i).cps ++ #[]) = nmK cs front s i
          rw [Array.append_empty]
        rw [eA]
        have hfl : fa ≠ l2 := ne_of_none hFC hl2
        refine ⟨fa, _, _, rfl, rfl, e7 _ _ hFC, ?_, but_put (pen_bt bC (But.of e7)) hfH, (PC.same e7).put nF, ?_, _, _, _, rfl⟩
        · rw [List.length_map, List.length_map, List.length_range]
          exact Nat.lt_of_lt_of_le (by omega : i < 100) (by decide)
        · rw [upd_same, List.range_succ, List.map_append, List.map_append]; rfl
    · subst eσ
      refine ⟨_, rfl, q fa ((List.range many).map (nmK cs front s)) H7 b7 hfH hF7 (by rw [List.length_map, List.length_range]) ?_ (fun z hz => ?_) (P7.mono (by omega))⟩
      · refine List.pairwise_map.mpr (List.Pairwise.imp_of_mem (fun {a b} ha hb hab => ?_) List.nodup_range)
        have ha := List.mem_range.mp ha
        have hb := List.mem_range.mp hb
        exact fun z => hab (nmK_inj hs (by omega) (by omega) z)
      · obtain ⟨k, _, rfl⟩ := List.mem_map.mp hz
        exact nmK_ok hl6 hcm
end PP
end
section
set_option maxHeartbeats 4000000
namespace PP
open PySem PySem.Spec PyProof.Rows L2 PR
variable {P : Program} {w : World} {K : PySem.W.Frag} {mg : Str → Option Value} {base : Heap}

open LamX NdefX
/-! ### the law's painters -/
def smV (x : PT) : List V := [.str x.name, .int x.day, .int x.post, .int x.str]
structure SmOk (x : PT) : Prop where
  nm : NameOk x.name
  d0 : 0 ≤ x.day
  d6 : x.day ≤ 6
  p0 : -8 ≤ x.post
  p8 : x.post ≤ 8
  s0 : -6 ≤ x.str
  s6 : x.str ≤ 6
  sn : x.str ≠ 0
def spSmall (K : PySem.W.Frag) : Sp := fun vs H Q _ => ∃ (p c : Addr) (m : Nat), vs = [.ref p, .int 4] ∧ Pen H p c m ∧ m + 300 ≤ 1000000 ∧
  ∀ (a : Addr) (as : List Addr) (xs : List PT) H', But p H H' → H' a = some (.lst (as.map V.ref)) → Paired (fun t x => SqT K H' t (smV x)) as xs → (∀ x ∈ xs, SmOk x) → (xs.map (·.name)).Nodup → xs.length ≤ 4 → Pen H' p c (m + 300) → Q (.ref a) H'
theorem ix_last {n : Nat} : ixN (n + 1) (-1) = some n := by
  unfold ixN
  rw [if_neg (by decide), if_pos (by omega)]
  congr 1
  omega
theorem cut_last {xs : List V} {y : V} : cutV (xs ++ [y]) none (some (-1)) = xs := by
  have e : HT.sIx (xs ++ [y]).length (xs ++ [y]).length (some (-1)) = xs.length := by
    rw [List.length_append]
    show (if (-1 : Int) < 0 then ((-1 : Int) + ((xs.length + 1 : Nat) : Int)).toNat else min (-1 : Int).toNat (xs.length + 1)) = xs.length
    rw [if_pos (by decide)]
    omega
  have e0 : HT.sIx (xs ++ [y]).length 0 none = 0 := rfl
  unfold cutV
  rw [e, e0, List.drop_zero, Nat.sub_zero, List.take_left]
theorem cut_tail {a b c d : V} : cutV [a, b, c, d] (some 1) none = [b, c, d] := rfl
theorem set_last {xs : List V} {y z : V} : (xs ++ [y]).set xs.length z = xs ++ [z] := by
  rw [List.set_append_right _ _ (Nat.le_refl _), Nat.sub_self]; rfl
theorem sc_law_small : FnScope ["_law_pen_here", "_law_most", "_law_found", "_law_many", "_law_label", "_law_pace", "_law_date"] ["_law_pen_here", "_law_most"] (defScope s_law_small) := ⟨rfl, rfl, rfl, by decide +kernel, rfl, by decide +kernel, by decide +kernel⟩
theorem ok_law_small (T : Txt K mg) : Fn P w K mg base 6 (He.ga K "_law_small") (spSmall K) := by
  obtain ⟨fd, F⟩ := T.d_law_small
  have G_law_names := ok_law_names (P := P) (w := w) (base := base) T
  have G_law_draw := ok_law_draw (P := P) (w := w) (base := base) T
  have G_law_pick := ok_law_pick (P := P) (w := w) (base := base) T
  have G_law_around := ok_law_around (P := P) (w := w) (base := base) T
  refine okR F sc_law_small (fun vs H Q E h => ?_) (fun _ _ _ _ _ _ us hl => match us, hl with | [_, _], _ => rfl) (fun cdv A outer s H vs Q E hr h => ⟨_, (pss_cons (ps_par (i := 2) (j := 3) (by rfl) sc_law_small.nd rfl rfl (by decide) rfl rfl (pa_cons (pe_lst pa_nil) (pa_cons (pe_op op_add pe_int (pe_callR G_law_draw (hr.mono (by decide)) T.g_law_draw (T.d_law_draw.elim fun _ F => F.kp) (pa_cons (pv 0) (pa_cons (pv 1) pa_nil)))) pa_nil)) (by rfl))
    (pss_cons (ps_for PassesOwn.never rfl (pi_list (pe_callR G_law_names (hr.mono (by decide)) T.g_law_names (T.d_law_names.elim fun _ F => F.kp) (pa_cons (pv 0) (pa_cons (pv 3) pa_nil)))) (pg_name (i := 4) sc_law_small.nd rfl (.inl rfl)) (pss_cons (ps_set (i := 5) sc_law_small.nd rfl (.inl rfl) (pe_op op_add pe_int (pe_callR G_law_pick (hr.mono (by decide)) T.g_law_pick (T.d_law_pick.elim fun _ F => F.kp) (pa_cons (pv 0) (pa_cons (pe_lst (pa_cons (pe_callR G_law_draw (hr.mono (by decide)) T.g_law_draw (T.d_law_draw.elim fun _ F => F.kp) (pa_cons (pv 0) (pa_cons pe_int pa_nil))) (pa_cons (pe_callR G_law_draw (hr.mono (by decide)) T.g_law_draw (T.d_law_draw.elim fun _ F => F.kp) (pa_cons (pv 0) (pa_cons pe_int pa_nil))) pa_nil))) pa_nil)))))
    (pss_cons (ps_set (i := 5) sc_law_small.nd rfl (.inl rfl) (pe_op op_mulW (pv 5) (pe_callR G_law_pick (hr.mono (by decide)) T.g_law_pick (T.d_law_pick.elim fun _ F => F.kp) (pa_cons (pv 0) (pa_cons (pe_lst (pa_cons pe_int (pa_cons (pe_un un_neg pe_int) pa_nil))) pa_nil)))))
    (pss_cons (ps_set (i := 6) sc_law_small.nd rfl (.inl rfl) (pe_callR G_law_pick (hr.mono (by decide)) T.g_law_pick (T.d_law_pick.elim fun _ F => F.kp) (pa_cons (pv 0) (pa_cons (pe_lst (pa_cons pe_int (pa_cons pe_int (pa_cons (pe_callR G_law_draw (hr.mono (by decide)) T.g_law_draw (T.d_law_draw.elim fun _ F => F.kp) (pa_cons (pv 0) (pa_cons pe_int pa_nil))) pa_nil)))) pa_nil))))
    (pss_cons (ps_expr (pe_bm PySem.F.plainAttrs_list PySem.F.slot_list_append PySem.F.type_list_append mt_append (pv 2) (pa_cons (pe_tup (pa_cons (pv 4) (pa_cons (pv 6) (pa_cons (pe_callR G_law_around (hr.mono (by decide)) T.g_law_around (T.d_law_around.elim fun _ F => F.kp) (pa_cons (pv 0) (pa_cons pe_int pa_nil))) (pa_cons (pv 5) pa_nil))))) pa_nil)))
    (pss_one (ps_if (PW.pt (pw_and (pt_cmpR op_gt (pe_callB call_len_seq (by rfl) T.f_len (by decide +kernel) (pa_cons (pv 2) pa_nil)) pe_int (nomark _)) (pw_and1 (pt_cmpR op_eq (pe_callR G_law_draw (hr.mono (by decide)) T.g_law_draw (T.d_law_draw.elim fun _ F => F.kp) (pa_cons (pv 0) (pa_cons pe_int pa_nil))) pe_int (nomark _))))) (pss_one (ps_asg (pe_op op_catT (pe_tup (pa_cons (pv 4) pa_nil)) (pe_slice sl_tup (pe_callR G_law_pick (hr.mono (by decide)) T.g_law_pick (T.d_law_pick.elim fun _ F => F.kp) (pa_cons (pv 0) (pa_cons (pe_slice sl_list (pv 2) po_none (po_some (pe_un un_neg pe_int))) pa_nil))) (po_some pe_int) po_none)) (pg_sub (pv 2) (pe_un un_neg pe_int) set_list))) pss_nil)))))))
    (pss_one (ps_ret (pv 2))))), ?_⟩)
  · obtain ⟨p, c, m, rfl, _⟩ := h; rfl
  · obtain ⟨p, c, m, rfl, hP, hm, q⟩ := h
    refine ⟨by show 0 ≤ sizeLine; decide, fun fa hfa => ?_⟩
    have nF := hP.ne hfa
    have e1 := same_new (o := .lst []) hfa
    refine ⟨_, rfl, _, rfl, p, c, _, m, rfl, hP.same e1, by decide, by decide, by omega, fun d H2 d0 d4 b2 P2 => ⟨_, _, rfl, rfl, _, _, rfl, ?_⟩⟩
    obtain ⟨dn, rfl⟩ := Int.eq_ofNat_of_zero_le d0
    refine ⟨_, rfl, _, rfl, p, c, m + 3, 1 + dn, rfl, P2, by omega, by omega, fun na zs H3 b3 hna3 hna zl znd zok P3 => ⟨na, rfl, ⟨_, .inl (.inl hna)⟩, ?_⟩⟩
    have bb3 : But p H H3 := pen_bt (But.of e1) (pen_bt b2 b3)
    have hF3 := b3 _ _ (b2 _ _ (upd_same (H := H) (a := fa) (o := .lst [])) nF.1.symm) nF.1.symm
    have hnaf : na ≠ fa := fun z => by rw [z, b2 _ _ (upd_same (H := H) (a := fa) (o := .lst [])) nF.1.symm] at hna3; cases hna3
    have hnp : na ≠ p := fun z => by
      obtain ⟨_, _, _, hp2, _⟩ := P2
      rw [z, hp2] at hna3; cases hna3
    have zl4 : zs.length ≤ 4 := by omega
    refine for_list (xs := zs.map V.str) (fun i σ H' => But p H H' ∧ Pen H' p c (m + 40 + 30 * i) ∧ H' na = some (.lst (zs.map V.str)) ∧ (∃ (as : List Addr) (xs : List PT), H' fa = some (.lst (as.map V.ref)) ∧ Paired (fun t x => SqT K H' t (smV x)) as xs ∧ (∀ x ∈ xs, SmOk x) ∧ xs.map (·.name) = zs.take i) ∧ ∃ z3 z4 z5 z6, σ = [some (.ref p), some (.int 4), some (.ref fa), z3, z4, z5, z6])
      ⟨bb3, P3.mono (by omega), hna, ⟨[], [], hF3, .nil, fun x hx => (by cases hx), rfl⟩, _, _, _, _, rfl⟩ (fun i σ H' _ ⟨_, _, e, _⟩ => .inl (.inl e))
      (fun i v σ Hc hv ⟨bC, PC, hnC, ⟨as, xs, hFC, hpr, hok, hnm⟩, z3, z4, z5, z6, eσ⟩ => ?_) (fun σ H' ⟨bC, PC, hnC, ⟨as, xs, hFC, hpr, hok, hnm⟩, z3, z4, z5, z6, eσ⟩ => ?_)
    · subst eσ
      rw [List.getElem?_map] at hv
      obtain ⟨z, hz, ev⟩ := Option.map_eq_some_iff.mp hv
      subst ev
      have hzi := (List.getElem?_eq_some_iff.mp hz).1
      have zokz := zok z (List.mem_of_getElem? hz)
      -- pace
      refine ⟨_, rfl, _, rfl, p, c, _, _, rfl, PC, by decide, by decide, by omega, fun g1 H4 u0 u1 b4 P4 => ?_⟩
      refine ⟨_, rfl, p, c, _, _, rfl, P4, by decide, by decide, by omega, fun g2 H5 w0 w1 b5 P5 => ⟨by show 2 ≤ sizeLine; decide, fun l1 hl1 => ?_⟩⟩
      have e6 := same_new (o := .lst [.int g1, .int g2]) hl1
      refine ⟨p, c, _, P5.same e6, by omega, .inl ⟨l1, [.int g1, .int g2], rfl, .inl (.inl upd_same), by show 0 < 2; decide, by show 2 ≤ 1000; decide, fun v H6 hv b6 P6 => ?_⟩⟩
      obtain ⟨g, rfl, gg0, gg6⟩ : ∃ g : Int, v = .int g ∧ 0 ≤ g ∧ g < 6 := by
        simp only [List.mem_cons, List.not_mem_nil, or_false] at hv
        rcases hv with rfl | rfl
        · exact ⟨_, rfl, u0, u1⟩
        · exact ⟨_, rfl, w0, by omega⟩
      have B6 : But p Hc H6 := pen_bt b4 (pen_bt b5 (pen_bt (But.of e6) b6))
      refine ⟨_, _, rfl, rfl, ?_⟩
      -- its sign
      refine ⟨_, rfl, _, rfl, _, rfl, by show 2 ≤ sizeLine; decide, fun l2 hl2 => ?_⟩
      have e7 := same_new (o := .lst [.int 1, .int (-1)]) hl2
      refine ⟨p, c, _, P6.same e7, by omega, .inl ⟨l2, [.int 1, .int (-1)], rfl, .inl (.inl upd_same), by show 0 < 2; decide, by show 2 ≤ 1000; decide, fun v H7 hv b7 P7 => ?_⟩⟩
      obtain ⟨s, rfl, hs⟩ : ∃ s : Int, v = .int s ∧ (s = 1 ∨ s = -1) := by
        simp only [List.mem_cons, List.not_mem_nil, or_false] at hv
        rcases hv with rfl | rfl
        · exact ⟨_, rfl, .inl rfl⟩
        · exact ⟨_, rfl, .inr rfl⟩
      have zg : Sz 5 (1 + g) := Sz.of (by omega) (by omega)
      have zsz : Sz 5 s := Sz.of (by omega) (by omega)
      refine ⟨_, _, rfl, rfl, zg.mul zsz (by decide), ?_⟩
      have hst : -6 ≤ (1 + g) * s ∧ (1 + g) * s ≤ 6 ∧ (1 + g) * s ≠ 0 := by rcases hs with rfl | rfl <;> omega
      dsimp only
      generalize (1 + g) * s = str at hst ⊢
      have B7 := pen_bt B6 (pen_bt (But.of e7) b7)
      -- date
      refine ⟨_, rfl, _, rfl, p, c, _, _, rfl, P7, by decide, by decide, by omega, fun g3 H8 k0 k7 b8 P8 => ⟨by show 3 ≤ sizeLine; decide, fun l3 hl3 => ?_⟩⟩
      have e9 := same_new (o := .lst [.int 0, .int 0, .int g3]) hl3
      refine ⟨p, c, _, P8.same e9, by omega, .inl ⟨l3, [.int 0, .int 0, .int g3], rfl, .inl (.inl upd_same), by show 0 < 3; decide, by show 3 ≤ 1000; decide, fun v H9 hv b9 P9 => ?_⟩⟩
      obtain ⟨dt, rfl, dt0, dt6⟩ : ∃ dt : Int, v = .int dt ∧ 0 ≤ dt ∧ dt ≤ 6 := by
        simp only [List.mem_cons, List.not_mem_nil, or_false] at hv
        rcases hv with rfl | rfl | rfl
        · exact ⟨_, rfl, Int.le_refl _, by decide⟩
        · exact ⟨_, rfl, Int.le_refl _, by decide⟩
        · exact ⟨_, rfl, k0, by omega⟩
      have B9 := pen_bt B7 (pen_bt b8 (pen_bt (But.of e9) b9))
      -- the tuple
      refine ⟨_, rfl, .inl ⟨rfl, _, .inl (.inl (B9 _ _ hFC nF.1.symm))⟩, _, rfl, _, rfl, _, rfl, p, c, _, 8, rfl, P9, by omega, by decide, by decide, fun y H10 y0 y1 b10 P10 => ⟨_, rfl, by show 4 ≤ sizeLine; decide, fun t ht => ?_⟩⟩
      have e11 := same_new (o := .tup (smV ⟨z, dt, y, str⟩)) ht
      have B11 := pen_bt B9 (pen_bt b10 (But.of e11))
      have P11 : Pen (upd H10 t (.tup (smV ⟨z, dt, y, str⟩))) p c (m + 40 + 30 * i + 21) := (P10.same e11).mono (by omega)
      have hF11 := B11 _ _ hFC nF.1.symm
      have hn11 := B11 _ _ hnC hnp
      have hT11 : (upd H10 t (.tup (smV ⟨z, dt, y, str⟩))) t = some (.tup (smV ⟨z, dt, y, str⟩)) := upd_same
      have okx : SmOk ⟨z, dt, y, str⟩ := ⟨zokz, dt0, dt6, y0, y1, hst.1, hst.2.1, hst.2.2⟩
      have bA := pen_bt bC B11
      have hxl : xs.length = i := by
        have := congrArg List.length hnm
        rw [List.length_map, List.length_take] at this
        omega
      have hal : as.length = xs.length := Paired.length hpr
      have htk : zs.take (i + 1) = zs.take i ++ [z] := by rw [take_snoc hz]
      have sqf : ∀ {H1 H2 : Hp} {a : Addr} {ws : List V}, SqT K H1 a ws → (∃ kv, H1 fa = some (.lst kv)) → (∀ x u, H1 x = some u → x ≠ p → x ≠ fa → H2 x = some u) → (∃ kv, H1 p = some (.dK kv)) → SqT K H2 a ws := fun {H1 H2 a ws} h ⟨kv, hf⟩ hb ⟨kv2, hp⟩ => by
        rcases h with (h | ⟨u, h⟩) | h
        · exact .inl (.inl (hb _ _ h (ne_of h hp (by intro z; cases z)) (ne_of h hf (by intro z; cases z))))
        · exact .inl (.inr ⟨u, hb _ _ h (ne_of h hp (by intro z; cases z)) (ne_of h hf (by intro z; cases z))⟩)
        · exact .inr h
      have penD : ∀ {H1 : Hp} {n : Nat}, Pen H1 p c n → ∃ kv, H1 p = some (.dK kv) := fun ⟨_, _, _, h, _⟩ => ⟨_, h⟩
      have xs1 : ∀ x ∈ xs ++ [(⟨z, dt, y, str⟩ : PT)], SmOk x := fun x hx => by
        rcases List.mem_append.mp hx with h | h
        · exact hok x h
        · rw [List.mem_singleton.mp h]; exact okx
      have nm1 : (xs ++ [(⟨z, dt, y, str⟩ : PT)]).map (·.name) = zs.take (i + 1) := by rw [List.map_append, hnm, htk]; rfl
      have nt : t ≠ fa := fun e => by rw [e] at ht; rw [b10 _ _ (B9 _ _ hFC nF.1.symm) nF.1.symm] at ht; cases ht
      have bt : But p Hc (upd H10 t (.tup (smV ⟨z, dt, y, str⟩))) := B11
      -- behind the append
      obtain ⟨H12, eH12⟩ : ∃ H12, H12 = upd (upd H10 t (.tup [.str z, .int dt, .int y, .int str])) fa (.lst (as.map V.ref ++ [.ref t])) := ⟨_, rfl⟩
      have b12 : But p H H12 := by rw [eH12]; exact but_put bA hfa
      have P12 : Pen H12 p c (m + 40 + 30 * i + 21) := by rw [eH12]; exact P11.put nF
      have hn12 : H12 na = some (.lst (zs.map V.str)) := by rw [eH12]; exact (upd_ne hnaf).trans hn11
      have hF12 : H12 fa = some (.lst ((as ++ [t]).map V.ref)) := by rw [eH12, upd_same, List.map_append]; rfl
      have pr12 : Paired (fun t x => SqT K H12 t (smV x)) (as ++ [t]) (xs ++ [⟨z, dt, y, str⟩]) := by
        refine pr_snoc (pr_imp hpr fun a x h => sqf h ⟨_, hFC⟩ (fun x u h1 h2 h3 => by rw [eH12]; exact (upd_ne h3).trans (B11 x u h1 h2)) (penD PC)) (SqT.of ?_)
        rw [eH12]
        exact (upd_ne nt).trans hT11
      refine ⟨fa, _, _, rfl, rfl, hF11, ?_, ?_⟩
      · rw [List.length_map, hal, hxl]
        exact Nat.lt_of_lt_of_le (by omega : i < 100) (by decide)
      refine ⟨_, rfl, fa, _, rfl, .inl (.inl (.inl (eH12 ▸ hF12))), _, _, rfl, rfl, _, rfl, ?_⟩
      dsimp only
      rw [← eH12]
      refine ite2 (fun h1 => ?_) (fun _ => ⟨b12, P12.mono (by omega), hn12, ⟨_, _, hF12, pr12, xs1, nm1⟩, _, _, _, _, rfl⟩)
      refine ⟨_, rfl, p, c, _, _, rfl, P12, by decide, by decide, by omega, fun g4 H13 j0 j7 b13 P13 => ⟨rfl, _, rfl, ite2 (fun _ => ?_) (fun _ => ?_)⟩⟩
      · -- another painter's way
        have hF13 := b13 _ _ hF12 nF.1.symm
        refine ⟨_, rfl, by show 1 ≤ sizeLine; decide, fun t1 ht1 => ?_⟩
        have e14 := same_new (o := .tup [.str z]) ht1
        have hF14 := e14 _ _ hF13
        refine ⟨_, rfl, _, rfl, _, rfl, _, rfl, fa, _, rfl, .inl (.inl hF14), fun l4 hl4 => ?_⟩
        have ecut : cutV ((as ++ [t]).map V.ref) none (some (-1)) = as.map V.ref := by rw [List.map_append]; exact cut_last
        have e15 := same_new (o := .lst (cutV ((as ++ [t]).map V.ref) none (some (-1)))) hl4
        have has : 0 < as.length := by
          have h1 := of_decide_eq_true h1
          rw [List.length_map, List.length_append] at h1
          have : ([t] : List Addr).length = 1 := rfl
          omega
        refine ⟨p, c, _, (P13.same e14).same e15, by omega, .inl ⟨l4, as.map V.ref, rfl, .inl (.inl (upd_same.trans (by rw [ecut]))), by rw [List.length_map]; exact has, by rw [List.length_map, hal, hxl]; omega, fun v H16 hv b16 P16 => ?_⟩⟩
        obtain ⟨a0, ha0, rfl⟩ := List.mem_map.mp hv
        have b136 : But p H12 H16 := pen_bt b13 (pen_bt (But.of e14) (pen_bt (But.of e15) b16))
        have pr16 : Paired (fun t x => SqT K H16 t (smV x)) (as ++ [t]) (xs ++ [⟨z, dt, y, str⟩]) := pr_imp pr12 fun a x h => sqf h ⟨_, hF12⟩ (fun x u h1 h2 _ => b136 x u h1 h2) (penD P12)
        have hF16 := b136 _ _ hF12 nF.1.symm
        have hn16 := b136 _ _ hn12 hnp
        obtain ⟨i0, hi0⟩ := List.mem_iff_getElem?.mp ha0
        obtain ⟨x0, hx0, hq0⟩ := PR.paired_get pr16 (i := i0) (by rw [List.getElem?_append_left (List.getElem?_eq_some_iff.mp hi0).1]; exact hi0)
        have hne4 : ¬ (HT.sIx 4 0 (some 1) = 0 ∧ HT.sIx 4 4 none = 4) := by decide
        have ok0 := xs1 x0 (List.mem_of_getElem? hx0)
        refine ⟨_, rfl, a0, _, rfl, hq0, hne4, fun t2 ht2 => ?_⟩
        have e17 := same_new (o := .tup [.int x0.day, .int x0.post, .int x0.str]) ht2
        have ht1' : H16 t1 = some (.tup [.str z]) := b16 _ _ (e15 _ _ upd_same) (fun e => by
          obtain ⟨_, _, _, hp3, _⟩ := P13
          rw [e, hp3] at ht1; cases ht1)
        refine ⟨t1, t2, [.str z], [.int x0.day, .int x0.post, .int x0.str], rfl, rfl, SqT.of (e17 _ _ ht1'), SqT.of upd_same, (by intro z; cases z), by show 1 + 3 ≤ sizeLine; decide, fun z => (by cases z), fun _ t3 ht3 => ?_⟩
        have e18 := same_new (o := .tup (smV ⟨z, x0.day, x0.post, x0.str⟩)) ht3
        have hF18 := e18 _ _ (e17 _ _ hF16)
        have bZ : But p H (upd (upd (upd H16 t2 (.tup [.int x0.day, .int x0.post, .int x0.str])) t3 (.tup (smV ⟨z, x0.day, x0.post, x0.str⟩))) fa (.lst ((as ++ [t3]).map V.ref))) := but_put (pen_bt b12 (pen_bt b136 (pen_bt (But.of e17) (But.of e18)))) hfa
        have hlx : ((as ++ [t]).map V.ref).length = as.length + 1 := by rw [List.length_map, List.length_append]; rfl
        have hset : ((as ++ [t]).map V.ref).set as.length (.ref t3) = (as ++ [t3]).map V.ref := by
          rw [List.map_append, List.map_append]
          have := set_last (xs := as.map V.ref) (y := .ref t) (z := .ref t3)
          rw [List.length_map] at this
          exact this
        refine ⟨_, rfl, _, rfl, fa, _, _, as.length, rfl, rfl, hF18, by rw [hlx]; exact ix_last, ?_⟩
        rw [hset]
        have ht3' : (upd H16 t2 (.tup [.int x0.day, .int x0.post, .int x0.str])) t3 = none := ht3
        have nt3 : t3 ≠ fa := fun e => by rw [e, e17 _ _ hF16] at ht3'; cases ht3'
        refine ⟨bZ, ((((P16.same e17).same e18).put nF).mono (by omega)), (upd_ne hnaf).trans (e18 _ _ (e17 _ _ hn16)), ⟨as ++ [t3], xs ++ [⟨z, x0.day, x0.post, x0.str⟩], upd_same, ?_, fun x hx => ?_, ?_⟩, _, _, _, _, rfl⟩
        · refine pr_snoc (pr_imp hpr fun a x h => sqf h ⟨_, hFC⟩ (fun x u h1 h2 h3 => (upd_ne h3).trans (e18 _ _ (e17 _ _ (b136 _ _ (by rw [eH12]; exact (upd_ne h3).trans (B11 x u h1 h2)) h2)))) (penD PC)) (SqT.of ((upd_ne nt3).trans upd_same))
        · rcases List.mem_append.mp hx with h | h
          · exact hok x h
          · rw [List.mem_singleton.mp h]
            exact ⟨zokz, ok0.d0, ok0.d6, ok0.p0, ok0.p8, ok0.s0, ok0.s6, ok0.sn⟩
        · rw [List.map_append, hnm, htk]; rfl
      · refine ⟨pen_bt b12 b13, P13.mono (by omega), b13 _ _ hn12 hnp, ⟨_, _, b13 _ _ hF12 nF.1.symm, ?_, xs1, nm1⟩, _, _, _, _, rfl⟩
        exact pr_imp pr12 fun a x h => sqf h ⟨_, hF12⟩ (fun x u h1 h2 _ => b13 x u h1 h2) (penD P12)
    · subst eσ
      have hzl : (zs.map V.str).length = zs.length := List.length_map ..
      rw [hzl, List.take_length] at hnm
      rw [hzl] at PC
      have hxl : xs.length ≤ 4 := by
        have := congrArg List.length hnm
        rw [List.length_map] at this
        omega
      exact ⟨_, rfl, q fa as xs H' bC hFC hpr hok (by rw [hnm]; exact znd) hxl (PC.mono (by omega))⟩
end PP
end
section
set_option maxHeartbeats 4000000
namespace PP
open PySem PySem.Spec PyProof.Rows L2 PR
variable {P : Program} {w : World} {K : PySem.W.Frag} {mg : Str → Option Value} {base : Heap}

open LamX NdefX
/-! ### the law's fence -/
def spLFence (K : PySem.W.Frag) : Sp := fun vs H Q _ => ∃ (fa : Addr) (as : List Addr) (xs : List PT), vs = [.ref fa] ∧ H fa = some (.lst (as.map V.ref)) ∧ Paired (fun t x => SqT K H t (smV x)) as xs ∧ (∀ x ∈ xs, SmOk x) ∧ (xs.map (·.name)).Nodup ∧ xs.length ≤ 4 ∧
  ∀ x pt pas H', Same H H' → FenceAt K H' x pt pas xs → Q (.ref x) H'
theorem sc_law_fence : FnScope ["_law_painters", "_law_fence_here", "_law_name", "_law_day", "_law_post", "_law_stride"] ["_law_painters"] (defScope s_law_fence) := ⟨rfl, rfl, rfl, by decide +kernel, rfl, by decide +kernel, by decide +kernel⟩
theorem ok_law_fence (T : Txt K mg) : Fn P w K mg base 6 (He.ga K "_law_fence") (spLFence K) := by
  obtain ⟨fd, F⟩ := T.d_law_fence
  have G_Painter_init := ok_Painter_init (P := P) (w := w) (base := base) T
  have G_Fence_init := ok_Fence_init (P := P) (w := w) (base := base) T
  have G_Fence_add := ok_Fence_add (P := P) (w := w) (base := base) T
  refine okR F sc_law_fence (fun vs H Q E h => ?_) (fun _ _ _ _ _ _ us hl => match us, hl with | [_], _ => rfl) (fun cdv A outer s H vs Q E hr h => ⟨_, (pss_cons (ps_set (i := 1) sc_law_fence.nd rfl (.inl rfl) (pe_makeR0 T.k_Fence G_Fence_init (hr.mono (by decide)) T.g_Fence))
    (pss_cons (ps_for PassesOwn.never rfl (pi_list (pv 0)) (pg_tup rfl (pgs_cons (pg_name (i := 2) sc_law_fence.nd rfl (.inl rfl)) (pgs_cons (pg_name (i := 3) sc_law_fence.nd rfl (.inl rfl)) (pgs_cons (pg_name (i := 4) sc_law_fence.nd rfl (.inl rfl)) (pgs_cons (pg_name (i := 5) sc_law_fence.nd rfl (.inl rfl)) pgs_nil))))) (pss_one (ps_set (i := 1) sc_law_fence.nd rfl (.inl rfl) (pe_op (op_addOwn T.ad1 T.ad2 T.ad3 T.o_Fence_add T.ad4 T.ad5 T.ad6 T.ad7 G_Fence_add hr pass0) (pv 1) (StX.pe_makeR T.k_Painter G_Painter_init (hr.mono (by decide)) (by rfl) T.g_Painter pass0 (pa_cons (pv 2) (pa_cons (pv 3) (pa_cons (pv 4) (pa_cons (pv 5) pa_nil)))))))))
    (pss_one (ps_ret (pv 1))))), ?_⟩)
  · obtain ⟨fa, as, xs, rfl, _⟩ := h; rfl
  · obtain ⟨fa, as, xs, rfl, hfa, hpr, hok, hnd, hl, q⟩ := h
    intro x dx hx hdx hne
    have e1 := same_made (C := He.ga K "Fence") hx hdx hne
    refine ⟨x, dx, [], [], rfl, upd_same, .nil, List.nodup_nil, Nat.zero_le _, fun H2 pt0 b2 F2 => ⟨rfl, ?_⟩⟩
    have E2 := but_same e1 b2 hx
    have hn : (as.map V.ref).length = xs.length := by rw [List.length_map, Paired.length hpr]
    refine ⟨_, rfl, fa, rfl, ⟨_, .inl (.inl (E2 _ _ hfa))⟩, ?_⟩
    refine for_list (xs := as.map V.ref) (fun i σ H' => Same H H' ∧ ∃ (fx pt : Addr) (pas : List Addr) (z2 z3 z4 z5 : Option V), FenceAt K H' fx pt pas (xs.take i) ∧ σ = [some (.ref fa), some (.ref fx), z2, z3, z4, z5])
      ⟨E2, x, pt0, [], _, _, _, _, F2, rfl⟩ (fun i σ H' _ ⟨e, _⟩ => .inl (.inl (e _ _ hfa))) (fun i v σ Hc hv ⟨eS, fx, pt, pas, z2, z3, z4, z5, FC, eσ⟩ => ?_) (fun σ H' ⟨eS, fx, pt, pas, z2, z3, z4, z5, FC, eσ⟩ => ?_)
    · subst eσ
      rw [List.getElem?_map] at hv
      obtain ⟨t, ht, ev⟩ := Option.map_eq_some_iff.mp hv
      subst ev
      obtain ⟨x0, hx0, hsq⟩ := PR.paired_get hpr ht
      have o0 := hok x0 (List.mem_of_getElem? hx0)
      have hi := (List.getElem?_eq_some_iff.mp hx0).1
      refine ⟨t, _, rfl, same_sqT eS hsq, rfl, _, _, rfl, _, _, rfl, _, _, rfl, _, _, rfl, rfl, ?_⟩
      refine ⟨_, rfl, _, rfl, _, rfl, _, rfl, _, rfl, ?_⟩
      intro y dy hy hdy hney
      have e3 := same_made (C := He.ga K "Painter") hy hdy hney
      have b0 := o0.d0
      have b1 := o0.d6
      have b2 := o0.p0
      have b3 := o0.p8
      have b4 := o0.s0
      have b5 := o0.s6
      refine ⟨y, dy, x0.name, x0.day, x0.post, x0.str, rfl, upd_same, o0.nm, b0, by omega, by omega, by omega, by omega, by omega, o0.sn, fun H4 b4 hP => ⟨rfl, ?_⟩⟩
      have E4 := but_same e3 b4 hy
      have F4 := FC.same E4
      obtain ⟨dxf, df, hf1, _⟩ := F4.ex
      obtain ⟨dp, tp, hp1, _⟩ := id hP
      refine ⟨fx, y, dxf, dp, _, _, rfl, rfl, hf1, hp1, fx, pt, y, pas, xs.take i, x0, rfl, F4, hP, ?_, ?_, fun x' pt' H5 e5 _ F5 => ⟨⟨_, rfl⟩, (eS.trans E4).trans e5, x', pt', pas ++ [y], _, _, _, _, by rw [take_snoc hx0]; exact F5, rfl⟩⟩
      · show ((xs.take i ++ [x0]).map (·.name)).Nodup
        rw [← take_snoc hx0, List.map_take]
        exact hnd.sublist (List.take_sublist _ _)
      · rw [List.length_take]; omega
    · subst eσ
      rw [hn, List.take_length] at FC
      exact ⟨_, rfl, q fx pt pas H' eS FC⟩
end PP
end
section
set_option maxHeartbeats 4000000
namespace PP
open PySem PySem.Spec PyProof.Rows L2 PR
variable {P : Program} {w : World} {K : PySem.W.Frag} {mg : Str → Option Value} {base : Heap}

open LamX NdefX
/-! ### what the law asks, plainly -/
def lastI (stops : List PM.Stop) : Int := match maxDay stops with
  | none => -1
  | some n => n
theorem maxOf_le {T : Int} : ∀ (r : List Int) (n : Int), n ≤ T → (∀ x ∈ r, x ≤ T) → PySem.W.maxOf n r ≤ T
  | [], n, h, _ => h
  | y :: r, n, h, hr => by
    show PySem.W.maxOf (if PySem.W.DatumOrd.lt n y = true then y else n) r ≤ T
    refine maxOf_le r _ ?_ fun x hx => hr x (List.mem_cons_of_mem _ hx)
    split
    · exact hr y (List.mem_cons_self ..)
    · exact h
theorem lastI_le {stops : List PM.Stop} {T : Int} (h0 : -1 ≤ T) (h : ∀ x ∈ stops, x.1 ≤ T) : lastI stops ≤ T := by
  unfold lastI maxDay
  cases stops with
  | nil => exact h0
  | cons a r =>
    exact maxOf_le _ _ (h a (List.mem_cons_self ..)) fun x hx => by
      obtain ⟨y, hy, rfl⟩ := List.mem_map.mp hx
      exact h y (List.mem_cons_of_mem _ hy)
theorem haltOf_app (l r : List PM.Stop) (j : Nat) : haltOf (l ++ r) j = (haltOf l j).or (haltOf r j) := by
  unfold haltOf
  exact List.find?_append
theorem haltOf_mem {l : List PM.Stop} {j : Nat} {x : PM.Stop} (h : haltOf l j = some x) : x ∈ l ∧ x.2.1 = j := by
  unfold haltOf at h
  exact ⟨List.mem_of_find?_eq_some h, by have := List.find?_some h; exact of_decide_eq_true this⟩
structure Asked (n : Nat) (stops stops' : List PM.Stop) : Prop where
  same : ∀ j x, j < n → haltOf stops j = some x → haltOf stops' j = some x
  late : ∀ j, j < n → haltOf stops j = none → ∃ x, haltOf stops' j = some x ∧ lastI stops < x.1
theorem asked {ps : List PT} {N f : Int} {stops stops' : List PM.Stop} (hN : 0 < N) (hF : PM.Fenced ps.length N f (dayOf ps) (postOf ps) (strOf ps)) (hd : ∀ i, i < ps.length → 0 ≤ dayOf ps i)
    (h : PM.Run ps.length (dayOf ps) (PM.fbF (dayOf ps) (postOf ps) (strOf ps)) (fun _ => none) (fun _ => none) stops)
    (h' : PM.Run ps.length (dayOf ps) (PM.fbR N (dayOf ps) (postOf ps) (strOf ps)) (fun p => some (PM.cyc N (strOf ps) p)) (fun _ => none) stops') : Asked ps.length stops stops' := by
  obtain ⟨T, L⟩ := PM.like_of hF
  obtain ⟨rest, e, hT, hR⟩ := PM.lockstep L h h'
  refine ⟨fun j x hj hx => by rw [e, haltOf_app, hx]; rfl, fun j hj hn => ?_⟩
  obtain ⟨x0, hx0, e0⟩ := PM.Run.all (fun p _ => by intro z; cases z) h' j hj rfl
  obtain ⟨x, hx⟩ : ∃ x, haltOf stops' j = some x := by
    have : (haltOf stops' j).isSome = true := by
      unfold haltOf
      rw [List.find?_isSome]
      exact ⟨x0, hx0, decide_eq_true e0⟩
    exact Option.isSome_iff_exists.mp this
  refine ⟨x, hx, ?_⟩
  have hm := haltOf_mem hx
  have h1 := h'.free x hm.1
  have hc : 0 ≤ x.2.2.1 := run_cnt (R := fun _ c => 0 ≤ c) (fun lim p q k hp hb => by
    have hc := PM.cyc_pos hN (strOf ps) p
    have hq := PM.Bl_lt hp hb
    unfold PM.Bl at hb
    by_cases e : q = p
    · rw [if_pos e] at hb
      have hb := Option.some.inj hb
      omega
    · rw [if_neg e, if_pos hq] at hb
      exact (PM.ring_le hb).1) h' x hm.1
  have hx2 := hx
  rw [e, haltOf_app, hn] at hx2
  have hlate : T < x.1 := hR x (haltOf_mem (l := rest) hx2).1
  have hx0 : 0 ≤ x.1 := by
    have := hd x.2.1 h1.2.1
    rw [h1.2.2.2]
    omega
  by_cases hT1 : -1 ≤ T
  · exact Int.lt_of_le_of_lt (lastI_le hT1 hT) hlate
  · have : stops = [] := by
      cases stops with
      | nil => rfl
      | cons a r =>
        have h2 := hT a (List.mem_cons_self ..)
        have h3 := h.free a (List.mem_cons_self ..)
        have h4 := hd a.2.1 h3.2.1
        have h5 : 0 ≤ a.2.2.1 := run_cnt (R := fun _ c => 0 ≤ c) (fun lim p q k hp hb => by
          have hq := PM.Bl_lt hp hb
          unfold PM.Bl at hb
          by_cases e : q = p
          · rw [if_pos e] at hb; cases hb
          · rw [if_neg e, if_pos hq] at hb
            exact (PM.fence_early hF hp hq hb).1) h a (List.mem_cons_self ..)
        rw [h3.2.2.2] at h2
        omega
    rw [this]
    show (-1 : Int) < x.1
    omega
end PP
end
section
set_option maxHeartbeats 4000000
namespace PP
open PySem PySem.Spec PyProof.Rows L2 PR
variable {P : Program} {w : World} {K : PySem.W.Frag} {mg : Str → Option Value} {base : Heap}

open LamX NdefX
/-! ### the law -/
theorem pen_tabs {T : List NTab} {H H' : Hp} {p c : Addr} {m : Nat} (t : TabsN T H) (hP : Pen H p c m) (e : But p H H') : TabsN T H' := by
  obtain ⟨_, _, _, hp, _⟩ := hP
  intro q hq
  obtain ⟨ps, a1, a2, a3⟩ := t q hq
  refine ⟨ps, e _ _ a1 (ne_of a1 hp (by intro z; cases z)), a2, fun pos cv hc => ?_⟩
  obtain ⟨d, e1, e2⟩ := a3 pos cv hc
  exact ⟨d, e1, e _ _ e2 (ne_of e2 hp fun z => codeO_kind.2.2.1 _ z)⟩
theorem FenceAt.pen {H H' : Hp} {a pt p c : Addr} {m : Nat} {pas : List Addr} {ps : List PT} (h : FenceAt K H a pt pas ps) (hP : Pen H p c m) (e : But p H H') : FenceAt K H' a pt pas ps := by
  obtain ⟨ns, b, r, hp, _⟩ := hP
  obtain ⟨⟨d1, d, h1, h2⟩, h3, h4, h5, h6⟩ := h
  have sq : ∀ {x : Addr} {xs : List V}, SqT K H x xs → SqT K H' x xs := fun {x xs} q => by
    rcases q with (q | ⟨u, q⟩) | q
    · exact .inl (.inl (e _ _ q (ne_of q hp (by intro z; cases z))))
    · exact .inl (.inr ⟨u, e _ _ q (ne_of q hp (by intro z; cases z))⟩)
    · exact .inr q
  refine ⟨⟨d1, d, e _ _ h1 (ne_of h1 hp (by intro z; cases z)), e _ _ h2 (ne_of h2 hp fun z => ?_)⟩, sq h3, ?_, h5, h6⟩
  · have z := HO.dK.inj z
    cases ps with
    | nil => cases z
    | cons q0 r0 =>
      have z2 : some (V.int ((0 : Nat) : Int)) = some (V.ref c) := congrArg (fun l : List (Key × V) => (l.map Prod.snd).head?) z
      cases z2
  · exact pr_imp h4 fun pa P0 ⟨dp, tp, g1, g2, g3⟩ => ⟨dp, tp, e _ _ g1 (ne_of g1 hp (by intro z; cases z)), sq g2, g3⟩
theorem pen_sqT {H H' : Hp} {p a c : Addr} {m : Nat} {xs : List V} (hP : Pen H p c m) (h : SqT K H a xs) (e : But p H H') : SqT K H' a xs := by
  obtain ⟨ns, b, r, hp, _⟩ := hP
  rcases h with (h | ⟨u, h⟩) | h
  · exact .inl (.inl (e _ _ h (ne_of h hp (by intro z; cases z))))
  · exact .inl (.inr ⟨u, e _ _ h (ne_of h hp (by intro z; cases z))⟩)
  · exact .inr h
theorem pen_ne {H : Hp} {p a c : Addr} {m : Nat} {xs : List V} (hP : Pen H p c m) (h : H a = some (.lst xs)) : a ≠ p := by
  obtain ⟨ns, b, r, hp, _⟩ := hP
  exact ne_of h hp (by intro z; cases z)
def spLaw (K : PySem.W.Frag) : Sp := fun vs H Q _ => ∃ (a : Addr) (ns : List Int), vs = [.ref a] ∧ SqL K H a (ns.map V.int) ∧ TabsN (tbl K) H ∧ ∀ H', Q (.bl true) H'
theorem sm_fenced {xs : List PT} {f cc bb N : Int} (hf : 1 ≤ f) (hN : 2000 * f ≤ N) (hok : ∀ x ∈ xs, SmOk x) :
    PM.Fenced ((xs.map (widP f)).map (movP cc bb)).length N f (dayOf ((xs.map (widP f)).map (movP cc bb))) (postOf ((xs.map (widP f)).map (movP cc bb))) (strOf ((xs.map (widP f)).map (movP cc bb))) := by
  refine ⟨hf, hN, bb, cc, dayOf xs, postOf xs, strOf xs, fun i hi => ?_⟩
  rw [List.length_map, List.length_map] at hi
  have h1 : xs[i]? = some xs[i] := List.getElem?_eq_getElem hi
  have h2 : ((xs.map (widP f)).map (movP cc bb))[i]? = some (movP cc bb (widP f xs[i])) := by rw [List.getElem?_map, List.getElem?_map, h1]; rfl
  obtain ⟨a1, a2, a3⟩ := of_at h1
  obtain ⟨b1, b2, b3⟩ := of_at h2
  have o := hok xs[i] (List.getElem_mem hi)
  rw [a1, a2, a3, b1, b2, b3]
  refine ⟨?_, ?_, ?_, o.d0, o.d6, o.p0, o.p8, o.s0, o.s6, o.sn⟩
  · show xs[i].day + bb = bb + xs[i].day
    omega
  · show xs[i].post * f + cc = cc + f * xs[i].post
    rw [Int.mul_comm]; omega
  · show xs[i].str * f = f * xs[i].str
    rw [Int.mul_comm]
theorem ab_le {x f : Int} {B F : Int} (h1 : -B ≤ x) (h2 : x ≤ B) (hB : 0 ≤ B) (f0 : 1 ≤ f) (f1 : f ≤ F) : -(B * F) ≤ x * f ∧ x * f ≤ B * F := by
  have a : x * f ≤ B * f := Int.mul_le_mul_of_nonneg_right h2 (by omega)
  have b : B * f ≤ B * F := Int.mul_le_mul_of_nonneg_left f1 hB
  have c : -B * f ≤ x * f := Int.mul_le_mul_of_nonneg_right h1 (by omega)
  have d : -B * f = -(B * f) := Int.neg_mul ..
  omega
theorem sm_wid {xs : List PT} {f : Int} (hf : 1 ≤ f) (hF : f ≤ 10 ^ 12) (hok : ∀ x ∈ xs, SmOk x) : ∀ p ∈ xs, PtOk (widP f p) := fun p hp => by
  have o := hok p hp
  have o1 := o.d0
  have o2 := o.d6
  have h1 := ab_le o.p0 o.p8 (by decide) hf hF
  have h2 := ab_le o.s0 o.s6 (by decide) hf hF
  refine ⟨o.nm, o1, ?_, ?_, ?_, ?_, ?_, ?_⟩
  · show p.day ≤ _
    omega
  · show _ ≤ p.post * f
    omega
  · show p.post * f ≤ _
    omega
  · show _ ≤ p.str * f
    omega
  · show p.str * f ≤ _
    omega
  · show p.str * f ≠ 0
    exact Int.mul_ne_zero o.sn (by omega)
theorem sm_mov {xs : List PT} {f cc bb : Int} (hf : 1 ≤ f) (hF : f ≤ 10 ^ 12) (hok : ∀ x ∈ xs, SmOk x) (c0 : -(10 ^ 20) ≤ cc) (c1 : cc ≤ 10 ^ 20) (b0 : 0 ≤ bb) (b1 : bb < 10 ^ 20) : ∀ p ∈ xs.map (widP f), PtOk (movP cc bb p) := fun p hp => by
  obtain ⟨q, hq, rfl⟩ := List.mem_map.mp hp
  have o := hok q hq
  have o1 := o.d0
  have o2 := o.d6
  have h1 := ab_le o.p0 o.p8 (by decide) hf hF
  have h2 := ab_le o.s0 o.s6 (by decide) hf hF
  refine ⟨o.nm, ?_, ?_, ?_, ?_, ?_, ?_, ?_⟩
  · show 0 ≤ q.day + bb
    omega
  · show q.day + bb ≤ _
    omega
  · show _ ≤ q.post * f + cc
    omega
  · show q.post * f + cc ≤ _
    omega
  · show _ ≤ q.str * f
    omega
  · show q.str * f ≤ _
    omega
  · show q.str * f ≠ 0
    exact Int.mul_ne_zero o.sn (by omega)
theorem sc_law : FnScope ["_law_script", "_law_pen_here", "_law_turn", "_law_painters", "_law_factor", "_law_fence_here", "_law_size", "_law_told", "_law_ring", "_law_last", "_law_name", "_law_amount", "_law_stop", "_law_row"] ["_law_script"] (defScope s_law) := ⟨rfl, rfl, rfl, by decide +kernel, rfl, by decide +kernel, by decide +kernel⟩
theorem ok_law (T : Txt K mg) (B : Tbs K mg base) (S : InitR P K) (hrc : Room 21 callerA) : FnA P w K mg base callerA (He.ga K "law") (spLaw K) := by
  obtain ⟨fd, F⟩ := T.d_law
  have G_law_pen := ok_law_pen (P := P) (w := w) (base := base) T
  have G_law_small := ok_law_small (P := P) (w := w) (base := base) T
  have G_law_great := ok_law_great (P := P) (w := w) (base := base) T
  have G_law_around := ok_law_around (P := P) (w := w) (base := base) T
  have G_law_fence := ok_law_fence (P := P) (w := w) (base := base) T
  have G_Fence_widened := ok_Fence_widened (P := P) (w := w) (base := base) T
  have G_Fence_moved := ok_Fence_moved (P := P) (w := w) (base := base) T
  have G_history := ok_history (P := P) (w := w) (base := base) (T0 := tbl K) T
  have G_Ring_init := ok_Ring_init (P := P) (w := w) (base := base) T B S
  have G_Ring_getitem := ok_Ring_getitem (P := P) (w := w) (base := base) T
  have G_History_rows := ok_History_rows (P := P) (w := w) (base := base) T
  have G_History_last_day := ok_History_last_day (P := P) (w := w) (base := base) T
  refine okA F sc_law hrc (fun vs H Q h => ?_) (fun _ _ _ _ _ _ us hl => match us, hl with | [_], _ => rfl) (fun cdv outer s H vs Q hr h => ?_)
  · obtain ⟨a, ns, rfl, _⟩ := h; rfl
  have hg : (cxOf CX0 P w K mg base ["_law_script", "_law_pen_here", "_law_turn", "_law_painters", "_law_factor", "_law_fence_here", "_law_size", "_law_told", "_law_ring", "_law_last", "_law_name", "_law_amount", "_law_stop", "_law_row"] "law" (defScope s_law) (He.ga K "law") cdv callerA outer s H E0).nox.A.guards = some [] := rfl
  obtain ⟨a, ns, rfl, ha, tb, q⟩ := h
  refine ⟨_, (pss_cons (ps_set (i := 1) sc_law.nd rfl (.inl rfl) (pe_callR G_law_pen (hr.mono (by decide)) T.g_law_pen (T.d_law_pen.elim fun _ F => F.kp) (pa_cons (pv 0) pa_nil)))
    (pss_cons (ps_for PassesOwn.never rfl (pi_range1 (by rfl) T.f_range (pa_cons pe_int pa_nil)) (pg_name (i := 2) sc_law.nd rfl (.inl rfl)) (pss_cons (ps_par (i := 3) (j := 4) (by rfl) sc_law.nd rfl rfl (by decide) rfl rfl (pa_cons (pe_callR G_law_small (hr.mono (by decide)) T.g_law_small (T.d_law_small.elim fun _ F => F.kp) (pa_cons (pv 1) (pa_cons pe_int pa_nil))) (pa_cons (pe_op op_add pe_int (pe_callR G_law_great (hr.mono (by decide)) T.g_law_great (T.d_law_great.elim fun _ F => F.kp) (pa_cons (pv 1) (pa_cons pe_int pa_nil)))) pa_nil)) (by rfl))
    (pss_cons (ps_set (i := 5) sc_law.nd rfl (.inl rfl) (pe_methR (pe_methR (pe_callR G_law_fence (hr.mono (by decide)) T.g_law_fence (T.d_law_fence.elim fun _ F => F.kp) (pa_cons (pv 3) pa_nil)) T.c_Fence T.m_Fence_widened G_Fence_widened (hr.mono (by decide)) pass0 (pa_cons (pv 4) pa_nil)) T.c_Fence T.m_Fence_moved G_Fence_moved (hr.mono (by decide)) pass0 (pa_cons (pe_callR G_law_around (hr.mono (by decide)) T.g_law_around (T.d_law_around.elim fun _ F => F.kp) (pa_cons (pv 1) (pa_cons (pe_op op_pow pe_int pe_int) pa_nil))) (pa_cons (pe_callR G_law_great (hr.mono (by decide)) T.g_law_great (T.d_law_great.elim fun _ F => F.kp) (pa_cons (pv 1) (pa_cons pe_int pa_nil))) pa_nil))))
    (pss_cons (ps_set (i := 6) sc_law.nd rfl (.inl rfl) (pe_op op_add (pe_op op_mulW (pv 4) pe_int) (pe_callR G_law_great (hr.mono (by decide)) T.g_law_great (T.d_law_great.elim fun _ F => F.kp) (pa_cons (pv 1) (pa_cons pe_int pa_nil)))))
    (pss_cons (ps_par (i := 7) (j := 8) (by rfl) sc_law.nd rfl rfl (by decide) rfl rfl (pa_cons (pe_callR G_history (hr.mono (by decide)) T.g_history (T.d_history.elim fun _ F => F.kp) (pa_cons (pv 5) pa_nil)) (pa_cons (StX.pe_makeR T.k_Ring G_Ring_init (hr.mono (by decide)) (by rfl) T.g_Ring pass0 (pa_cons (pv 6) (pa_cons (pv 5) pa_nil))) pa_nil)) (by rfl))
    (C8.pss_cut (ps_set (i := 9) sc_law.nd rfl (.inl rfl) (pe_ifExp (pt_cmpR op_isN (pe_propR (pv 7) T.c_History T.p_History_last_day G_History_last_day (hr.mono (by decide))) pe_non (nomark _)) (pe_un un_neg pe_int) (pe_propR (pv 7) T.c_History T.p_History_last_day G_History_last_day (hr.mono (by decide)))))
    (pss_one (ps_for PassesOwn.never rfl (pi_tup (pe_propR (pv 7) T.c_History T.p_History_rows G_History_rows (hr.mono (by decide)))) (pg_tup rfl (pgs_cons (pg_name (i := 10) sc_law.nd rfl (.inl rfl)) (pgs_cons (pg_name (i := 11) sc_law.nd rfl (.inl rfl)) (pgs_cons (pg_name (i := 12) sc_law.nd rfl (.inl rfl)) pgs_nil)))) (pss_cons (ps_set (i := 13) sc_law.nd rfl (.inl rfl) (pe_ixOwn (pv 8) (pv 10) T.o_Ring_getitem T.gi1 G_Ring_getitem (hr.mono (by decide)) pass0))
    (pss_one (ps_if (pt_cmpR op_isN (pv 12) pe_non (nomark _)) (pss_one (ps_if (pt_cmpR op_le (pe_ix ix_tup (pe_ix ix_tup (pv 13) pe_int (fun _ _ => rfl)) pe_int (fun _ _ => rfl)) (pv 9) (nomark _)) (pss_one (ps_ret pe_bl)) pss_nil)) (pss_one (ps_if (pt_cmpR op_ne (pe_callB (call_repr_D hg (u64_of hr)) (by rfl) T.f_repr (by decide +kernel) (pa_cons (pv 13) pa_nil)) (pe_callB (call_repr_D hg (u64_of hr)) (by rfl) T.f_repr (by decide +kernel) (pa_cons (pe_tup (pa_cons (pv 10) (pa_cons (pv 11) (pa_cons (pe_tup (pa_cons (pe_ix ix_tup (pv 12) pe_int (fun _ _ => rfl)) (pa_cons (pe_op op_mod (pe_callTy call_int1 (by rfl) T.f_int (by decide +kernel) (pa_cons (pe_ix ix_tup (pv 12) pe_int (fun _ _ => rfl)) pa_nil)) (pv 6)) (pa_cons (pe_ix ix_tup (pv 12) pe_int (fun _ _ => rfl)) pa_nil)))) pa_nil)))) pa_nil)) (nomark _)) (pss_one (ps_ret pe_bl)) pss_nil)))))))))))))
    (pss_one (ps_ret pe_bl)))), ?_⟩
  -- the pen
  refine ⟨_, rfl, a, ns, rfl, ha, fun p c H1 e1 hp hc P1 => ?_⟩
  have tb1 := tabs_same tb e1
  refine ⟨3, rfl, by decide, by decide, ?_⟩
  refine for_it (n := 3) walk_range (fun i σ H' => Pen H' p c (500 * i) ∧ TabsN (tbl K) H' ∧ ∃ z2 z3 z4 z5 z6 z7 z8 z9 z10 z11 z12 z13, σ = [some (.ref a), some (.ref p), z2, z3, z4, z5, z6, z7, z8, z9, z10, z11, z12, z13])
    ⟨P1, tb1, _, _, _, _, _, _, _, _, _, _, _, _, rfl⟩ (fun _ _ _ _ _ => trivial) (fun i x σ Hc H' hi ⟨PC, tC, z2, z3, z4, z5, z6, z7, z8, z9, z10, z11, z12, z13, eσ⟩ y => ?_) (fun σ H' _ => q H')
  obtain ⟨rfl, rfl⟩ := y
  subst eσ
  -- painters, factor
  refine ⟨_, rfl, p, c, _, rfl, PC, by omega, fun fa as xs H2 b2 hfa hpr hok hnd hl P2 => ?_⟩
  refine ⟨_, rfl, p, c, _, 12, rfl, P2, by omega, by decide, by decide, fun g H3 g0 g1 b3 P3 => ⟨_, _, rfl, rfl, _, _, rfl, ?_⟩⟩
  have f1 : 1 ≤ 1 + g := by omega
  have f12 : 1 + g ≤ 10 ^ 12 := by
    have : g < (10 : Int) ^ 12 := g1
    omega
  dsimp only
  generalize 1 + g = f at f1 f12 ⊢
  -- the fence
  have F_ins : ∀ {H : Hp} {a pt : Addr} {pas : List Addr} {ps : List PT}, FenceAt K H a pt pas ps → ∃ dx d, H a = some (.ins (He.ga K "Fence") dx (fnF pt d)) := fun h => by
    obtain ⟨⟨dx, d, h1, _⟩, _⟩ := h
    exact ⟨dx, d, h1⟩
  refine ⟨_, rfl, fa, as, xs, rfl, b3 _ _ hfa (pen_ne P2 hfa), pr_imp hpr (fun a x h => pen_sqT P2 h b3), hok, hnd, hl, fun x0 pt0 pas0 H4 e4 F4 => ?_⟩
  obtain ⟨dx0, d0, hf0⟩ := F_ins F4
  refine ⟨x0, dx0, _, rfl, hf0, rfl, _, rfl, x0, pt0, pas0, xs, f, rfl, F4, f1, by omega, sm_wid f1 f12 hok, fun x1 pt1 pas1 H5 e5 F5 => ?_⟩
  obtain ⟨dx1, d1, hf1⟩ := F_ins F5
  have P5 := (P3.same e4).same e5
  refine ⟨x1, dx1, _, rfl, hf1, rfl, _, rfl, _, _, rfl, rfl, ⟨by decide, by decide, by decide⟩, p, c, _, 10 ^ 20, rfl, P5, by omega, by decide, by decide, fun cc H6 c0 c1 b6 P6 => ?_⟩
  refine ⟨_, rfl, p, c, _, 20, rfl, P6, by omega, by decide, by decide, fun bb H7 k0 k1 b7 P7 => ?_⟩
  have F7 := (F5.pen P5 b6).pen P6 b7
  refine ⟨x1, pt1, pas1, xs.map (widP f), cc, bb, rfl, F7, sm_mov f1 f12 hok c0 c1 k0 k1, fun x2 pt2 pas2 H8 e8 F8 => ?_⟩
  have P8 := P7.same e8
  have zf : Sz 100 f := Sz.of (by omega) (by omega)
  -- the size
  refine ⟨_, rfl, _, _, rfl, rfl, zf.mul (m := 11) (by decide) (by decide), _, rfl, p, c, _, 9, rfl, P8, by omega, by decide, by decide, fun gz H9 w0 w1 b9 P9 => ⟨_, _, rfl, rfl, ?_⟩⟩
  have F9 := F8.pen P8 b9
  have w1 : gz < 10 ^ 9 := w1
  have hN2 : 2000 * f ≤ f * 2000 + gz := by omega
  have hNM : f * 2000 + gz ≤ 10 ^ 30 := by omega
  have hN0 : 0 < f * 2000 + gz := by omega
  have hFe := sm_fenced (cc := cc) (bb := bb) f1 hN2 hok
  have tb9 : TabsN (tbl K) H9 := pen_tabs (tabs_same (pen_tabs (pen_tabs (tabs_same (tabs_same (pen_tabs (pen_tabs tC PC b2) P2 b3) e4) e5) P5 b6) P6 b7) e8) P8 b9
  dsimp only
  generalize f * 2000 + gz = N at hN2 hNM hN0 hFe ⊢
  have hday : ∀ i, i < ((xs.map (widP f)).map (movP cc bb)).length → 0 ≤ dayOf ((xs.map (widP f)).map (movP cc bb)) i ∧ dayOf ((xs.map (widP f)).map (movP cc bb)) i ≤ 10 ^ 21 := fun i hi => by
    have h1 := List.getElem?_eq_getElem hi
    rw [(of_at h1).1]
    have hm := List.getElem_mem hi
    obtain ⟨q1, hq1, e1⟩ := List.mem_map.mp hm
    obtain ⟨q2, hq2, rfl⟩ := List.mem_map.mp hq1
    rw [← e1]
    have o := hok q2 hq2
    have o1 := o.d0
    have o2 := o.d6
    have k1 : bb < 10 ^ 20 := k1
    show 0 ≤ q2.day + bb ∧ q2.day + bb ≤ 10 ^ 21
    omega
  have hnames : ∀ i, i < ((xs.map (widP f)).map (movP cc bb)).length → NameOk (nameOf ((xs.map (widP f)).map (movP cc bb)) i) := fun i hi => by
    have h1 := List.getElem?_eq_getElem hi
    rw [name_at h1]
    obtain ⟨q1, hq1, e1⟩ := List.mem_map.mp (List.getElem_mem hi)
    obtain ⟨q2, hq2, rfl⟩ := List.mem_map.mp hq1
    rw [← e1]
    exact (hok q2 hq2).nm
  generalize ((xs.map (widP f)).map (movP cc bb)) = ps at F9 hFe hday hnames
  -- told, ring
  refine ⟨_, rfl, x2, pt2, pas2, ps, N, f, rfl, F9, hFe, tb9, fun hx H10 stops o10 t10 HA hRun => ?_⟩
  have F10 := F9.ex' o10
  refine ⟨_, rfl, _, rfl, fun y dy hy hdy hne => ?_⟩
  have eM := same_made (C := He.ga K "Ring") hy hdy hne
  refine ⟨y, dy, x2, pt2, pas2, ps, N, rfl, upd_same, F10.same eM, hN0, hNM, tabs_same t10 eM, fun H11 stops' o11 t11 RA hRun' => ⟨rfl, _, _, rfl, ?_⟩⟩
  have x11 : Ex H10 H11 := fun x u g n _ => o11 x u (eM x u g) n (ne_of_none g hy)
  have HA11 := HA.ex' x11
  have A := asked hN0 hFe (fun i hi => (hday i hi).1) hRun hRun'
  have P11 : Pen H11 p c (500 * (i + 1)) := ((P9.off o10 (fun _ z => z.elim)).off x11 (fun _ z => z.elim)).mono (by omega)
  -- last
  have H_ins : ∀ {H : Hp}, HistAt K H hx ps stops → ∃ dx fa l h, H hx = some (.ins (He.ga K "History") dx (hsF fa l h)) := fun h => by
    obtain ⟨⟨dx, fa, pt, pas, l, h, kvl, ts, h1, _⟩, _⟩ := h
    exact ⟨dx, fa, l, h, h1⟩
  refine ⟨fun σ H' => Same H11 H' ∧ ∃ z2 z3 z4 z5 z10 z11 z12 z13, σ = [some (.ref a), some (.ref p), z2, z3, z4, z5, some (.int N), some (.ref hx), some (.ref y), some (.int (lastI stops)), z10, z11, z12, z13], ?_, fun σ H12 ⟨e12, z2, z3, z4, z5, z10, z11, z12, z13, eσ⟩ => ?_⟩
  · obtain ⟨dxh, fah, lh, hh, hH11⟩ := H_ins HA11
    refine ⟨_, rfl, hx, dxh, _, rfl, hH11, hx, ps, stops, rfl, HA11, fun H12 e12 => ⟨rfl, _, rfl, ?_⟩⟩
    have HA12 := HA11.ex' (Off.same e12)
    obtain ⟨dxh2, fah2, lh2, hh2, hH12⟩ := H_ins HA12
    cases hmx : maxDay stops with
    | none =>
      have hl : lastI stops = -1 := by unfold lastI; rw [hmx]
      rw [hl]
      exact ⟨_, rfl, e12, _, _, _, _, _, _, _, _, rfl⟩
    | some n =>
      have hl : lastI stops = n := by unfold lastI; rw [hmx]
      rw [hl]
      refine ⟨_, rfl, hx, dxh2, _, rfl, hH12, hx, ps, stops, rfl, HA12, fun H13 e13 => ?_⟩
      rw [hmx]
      exact ⟨e12.trans e13, _, _, _, _, _, _, _, _, rfl⟩
  subst eσ
  have HA12 := HA11.ex' (Off.same e12)
  have RA12 := RA.ex' (Off.same e12)
  obtain ⟨dxh, fah, lh, hh, hH12⟩ := H_ins HA12
  have hst : ∀ x ∈ stops, x.2.1 < ps.length := fun x hx => (hRun.free x hx).2.1
  have hst' : ∀ x ∈ stops', x.2.1 < ps.length := fun x hx => (hRun'.free x hx).2.1
  refine ⟨_, rfl, hx, dxh, _, rfl, hH12, hx, ps, stops, rfl, HA12, hst, fun tr rs H13 e13 htr hrows => ⟨tr, rfl, ⟨_, htr⟩, ?_⟩⟩
  have hrl : (rs.map V.ref).length = ps.length := by
    rw [List.length_map, Paired.length hrows, List.length_range]
  have PE13 : Pen H13 p c (500 * (i + 1)) := (P11.same e12).same e13
  have T13 : TabsN (tbl K) H13 := tabs_same (tabs_same t11 e12) e13
  refine for_tup (xs := rs.map V.ref) (fun j σ H' => Same H13 H' ∧ ∃ z2 z3 z4 z5 z10 z11 z12 z13, σ = [some (.ref a), some (.ref p), z2, z3, z4, z5, some (.int N), some (.ref hx), some (.ref y), some (.int (lastI stops)), z10, z11, z12, z13])
    ⟨Same.refl _, _, _, _, _, _, _, _, _, rfl⟩ (fun j σ H' _ ⟨e, _⟩ => same_sqT e htr) (fun j v σ Hd hv ⟨eD, z2, z3, z4, z5, z10, z11, z12, z13, eσ⟩ => ?_) (fun σ H' ⟨e, z2, z3, z4, z5, z10, z11, z12, z13, eσ⟩ => ?_)
  · subst eσ
    rw [List.getElem?_map] at hv
    obtain ⟨r, hr0, ev⟩ := Option.map_eq_some_iff.mp hv
    subst ev
    obtain ⟨j', hj', hrow⟩ := PR.paired_get hrows hr0
    obtain ⟨hjl, hje⟩ := List.getElem?_eq_some_iff.mp hj'
    rw [List.length_range] at hjl
    rw [List.getElem_range] at hje
    subst hje
    obtain ⟨hv1, hsq, hha⟩ := hrow
    have eR := e13.trans eD
    have RAd := RA12.ex' (Off.same eR)
    obtain ⟨⟨dyr, tpr, far, ptr, pasr, lr, hhr, kvlr, tsr, hRing, _⟩, _⟩ := id RAd
    refine ⟨r, _, rfl, same_sqT eD hsq, rfl, _, _, rfl, _, _, rfl, _, _, rfl, rfl, ?_⟩
    have fits : ∀ {x : PM.Stop}, x ∈ stops' → x.1.natAbs < 10 ^ 60 ∧ x.2.2.1.natAbs < 10 ^ 60 ∧ (postR ps N x).natAbs < 10 ^ 60 := fun {x} hm => by
      have h1 := hRun'.free x hm
      have h2 := hday x.2.1 h1.2.1
      have h3 : 0 ≤ x.2.2.1 ∧ x.2.2.1 ≤ N := run_cnt (R := fun _ c => 0 ≤ c ∧ c ≤ N) (fun lim p q k hp hb => by
        have hc := PM.cyc_pos hN0 (strOf ps) p
        have hq := PM.Bl_lt hp hb
        unfold PM.Bl at hb
        by_cases e : q = p
        · rw [if_pos e] at hb
          have hb := Option.some.inj hb
          omega
        · rw [if_neg e, if_pos hq] at hb
          have := PM.ring_le hb
          omega) hRun' x hm
      have h4 : 0 ≤ postR ps N x ∧ postR ps N x < N := ⟨Int.emod_nonneg _ (by omega), Int.emod_lt_of_pos _ hN0⟩
      rw [h1.2.2.2]
      omega
    have hch : ∀ {k : Nat}, k < ps.length → (∀ ch ∈ (nameOf ps k).cps.toList, ch < 16 ^ 8) ∧ (nameOf ps k).length ≤ 8 := fun {k} hk => by
      have h1 := hnames k hk
      refine ⟨fun ch hc => ?_, h1.l8⟩
      have h2 : ∀ ch ∈ abc.cps.toList, ch < 16 ^ 8 := by decide +kernel
      exact h2 ch (h1.all ch hc)
    cases hho : haltOf stops j with
    | none =>
      rw [hho] at hha
      obtain rfl : hv1 = V.non := hha
      obtain ⟨x', hx', hlt⟩ := A.late j hjl hho
      refine ⟨_, rfl, _, rfl, y, dyr, _, rfl, hRing, y, N, ps, stops', j, x', rfl, RAd, hjl, hst', hx', fun r' t' H14 e14 hr' ht' => ?_⟩
      refine ⟨_, rfl, rfl, _, rfl, ?_⟩
      refine iteT ⟨_, rfl, r', _, _, _, rfl, rfl, hr', rfl, t', _, _, _, rfl, rfl, ht', rfl, _, rfl, _, _, rfl, rfl, _, congrArg V.bl (decide_eq_false (by omega : ¬ x'.1 ≤ lastI stops)), ?_⟩
      exact ⟨eD.trans e14, _, _, _, _, _, _, _, _, rfl⟩
    | some x =>
      rw [hho] at hha
      obtain ⟨ts, rfl, hts⟩ := hha
      have hx' := A.same j x hjl hho
      refine ⟨_, rfl, _, rfl, y, dyr, _, rfl, hRing, y, N, ps, stops', j, x, rfl, RAd, hjl, hst', hx', fun r' t' H14 e14 hr' ht' => ?_⟩
      refine ⟨_, rfl, rfl, _, rfl, ?_⟩
      have hlim : limOf stops j = some x.2.2.1 := by unfold limOf; rw [hho]; rfl
      rw [hlim]
      have hxm := (haltOf_mem hx').1
      obtain ⟨g1, g2, g3⟩ := fits hxm
      obtain ⟨ch1, le1⟩ := hch hjl
      obtain ⟨ch2, le2⟩ := hch (hRun'.free x hxm).2.2.1
      obtain ⟨s1, s2, s3, s4⟩ := row_show ch1 ch2 le1 le2 g2 g1 g3
      have hts14 : SqT K H14 ts [.int x.1, .int (postAt ps x), .str (nameOf ps x.2.2.2)] := same_sqT e14 (same_sqT eD hts)
      have ht14 : SqT K H14 t' [.int x.1, .int (postR ps N x), .str (nameOf ps x.2.2.2)] := ht'
      have dp1 : Dp K H14 (.ref r') (.tuple [.str (nameOf ps j), .int x.2.2.1, .tuple [.int x.1, .int (postR ps N x), .str (nameOf ps x.2.2.2)]]) := .tup hr' (.cons (.str _) (.cons (.int _) (.cons (.tup ht14 (.cons (.int _) (.cons (.int _) (.cons (.str _) .nil)))) .nil)))
      refine iteF ⟨_, rfl, r', _, rfl, dp1, s1, s2, s3, s4, ?_⟩
      refine ⟨_, rfl, _, rfl, _, rfl, ts, _, _, _, rfl, rfl, hts14, rfl, _, rfl, ts, _, _, _, rfl, rfl, hts14, rfl, .inl ⟨_, rfl, _, rfl, _, _, rfl, rfl, hN0, _, rfl, ts, _, _, _, rfl, rfl, hts14, rfl, by show 3 ≤ sizeLine; decide, fun u hu => ⟨by show 3 ≤ sizeLine; decide, fun u2 hu2 => ?_⟩⟩⟩
      have e15 := same_new (o := .tup [.int x.1, .int (postR ps N x), .str (nameOf ps x.2.2.2)]) hu
      have e16 := same_new (o := .tup [.str (nameOf ps j), .int x.2.2.1, .ref u]) hu2
      have hu16 := e16 _ _ (upd_same (H := H14) (a := u) (o := .tup [.int x.1, .int (postR ps N x), .str (nameOf ps x.2.2.2)]))
      refine ⟨u2, .tuple [.str (nameOf ps j), .int x.2.2.1, .tuple [.int x.1, .int (postR ps N x), .str (nameOf ps x.2.2.2)]], rfl, .tup (SqT.of upd_same) (.cons (.str _) (.cons (.int _) (.cons (.tup (SqT.of hu16) (.cons (.int _) (.cons (.int _) (.cons (.str _) .nil)))) .nil))), s1, s2, s3, s4, ?_⟩
      refine ⟨rfl, false, congrArg V.bl (by simp), ?_⟩
      exact ⟨((eD.trans e14).trans e15).trans e16, _, _, _, _, _, _, _, _, rfl⟩
  · subst eσ
    exact ⟨PE13.same e, tabs_same T13 e, _, _, _, _, _, _, _, _, _, _, _, _, rfl⟩
end PP
end
section
set_option maxHeartbeats 0
/-! Txt, InitR and the tables out of the Hook. -/
namespace PP
open PySem PySem.Spec PyProof.Rows L2 PR
theorem txt_of {K : PySem.W.Frag} {h : Heap} {mg : Str → Option Value} (X : K.In h) (G : h.Ns mainGlobals mg) (c : SaysP h K) : Txt K mg where
  g_is_integer := He.glo_ok X G (c.fa 0)
  g_is_between := He.glo_ok X G (c.fa 1)
  g_need_count := He.glo_ok X G (c.fa 2)
  g_inverse := He.glo_ok X G (c.fa 3)
  g_greatest_divisor := He.glo_ok X G (c.fa 4)
  g_least_fit := He.glo_ok X G (c.fa 5)
  g_least_true := He.glo_ok X G (c.fa 6)
  g_floor_sum := He.glo_ok X G (c.fa 7)
  g_remainders_below := He.glo_ok X G (c.fa 8)
  g_ceiling := He.glo_ok X G (c.fa 9)
  g_is_name := He.glo_ok X G (c.fa 10)
  g_history := He.glo_ok X G (c.fa 11)
  g_law_pen := He.glo_ok X G (c.fa 12)
  g_law_draw := He.glo_ok X G (c.fa 13)
  g_law_pick := He.glo_ok X G (c.fa 14)
  g_law_around := He.glo_ok X G (c.fa 15)
  g_law_power := He.glo_ok X G (c.fa 16)
  g_law_great := He.glo_ok X G (c.fa 17)
  g_law_names := He.glo_ok X G (c.fa 18)
  g_law_small := He.glo_ok X G (c.fa 19)
  g_law_fence := He.glo_ok X G (c.fa 20)
  g_law := He.glo_ok X G (c.fa 21)
  g_is_name_names := PySem.W.mg_of X G (He.eqO_ok (c.ex 13))
  g_Crossing := He.glo_ok X G (c.fa 22)
  c_Crossing := He.cls_ok (c.fa 23)
  k_Crossing := He.mkr_ok (c.fa 24)
  g_Blocks := He.glo_ok X G (c.fa 25)
  c_Blocks := He.cls_ok (c.fa 26)
  k_Blocks := He.mkr_ok (c.fa 27)
  g_RingCrossing := He.glo_ok X G (c.fa 28)
  c_RingCrossing := He.cls_ok (c.fa 29)
  k_RingCrossing := He.mkr_ok (c.fa 30)
  g_RingBlocks := He.glo_ok X G (c.fa 31)
  c_RingBlocks := He.cls_ok (c.fa 32)
  k_RingBlocks := He.mkr_ok (c.fa 33)
  g_Ring := He.glo_ok X G (c.fa 34)
  c_Ring := He.cls_ok (c.fa 35)
  k_Ring := He.mkr_ok (c.fa 36)
  g_Painter := He.glo_ok X G (c.fa 37)
  c_Painter := He.cls_ok (c.fa 38)
  k_Painter := He.mkr_ok (c.fa 39)
  g_Fence := He.glo_ok X G (c.fa 40)
  c_Fence := He.cls_ok (c.fa 41)
  k_Fence := He.mkr_ok (c.fa 42)
  g_History := He.glo_ok X G (c.fa 43)
  c_History := He.cls_ok (c.fa 44)
  k_History := He.mkr_ok (c.fa 45)
  f_len := He.free_ok X G (c.fa 46)
  f_abs := He.free_ok X G (c.fa 47)
  f_min := He.free_ok X G (c.fa 48)
  f_max := He.free_ok X G (c.fa 49)
  f_int := He.free_ok X G (c.fa 50)
  f_isinstance := He.free_ok X G (c.fa 51)
  f_enumerate := He.free_ok X G (c.fa 52)
  f_range := He.free_ok X G (c.fa 53)
  f_tuple := He.free_ok X G (c.fa 54)
  f_list := He.free_ok X G (c.fa 55)
  f_repr := He.free_ok X G (c.fa 56)
  f_super := He.free_ok X G (c.fa 57)
  f_divmod := He.free_ok X G (c.fa 58)
  f_all := He.free_ok X G (c.fa 59)
  f_bool := He.free_ok X G (c.fa 60)
  f_str := He.free_ok X G (c.fa 61)
  i_MAX_ARGUMENT := He.int_ok X G (c.fa 62)
  i_MAX_PAINTERS := He.int_ok X G (c.fa 63)
  i_MAX_STRIDE := He.int_ok X G (c.fa 64)
  i_MAX_FEW := He.int_ok X G (c.fa 65)
  i_MAX_SIZE := He.int_ok X G (c.fa 66)
  i_MAX_NAME := He.int_ok X G (c.fa 67)
  t_LETTERS := He.str_ok X G (c.fa 68)
  a_Crossing_one := He.noat_ok (c.fa 69)
  a_Crossing_other := He.noat_ok (c.fa 70)
  a_Crossing_is_empty := He.noat_ok (c.fa 71)
  a_Crossing_step := He.noat_ok (c.fa 72)
  a_Crossing_other_step := He.noat_ok (c.fa 73)
  a_Crossing_start := He.noat_ok (c.fa 74)
  a_Crossing_other_start := He.noat_ok (c.fa 75)
  a_Blocks_walkers := He.noat_ok (c.fa 76)
  a_Blocks_limits := He.noat_ok (c.fa 77)
  a_Blocks_firsts := He.noat_ok (c.fa 78)
  a_Blocks_crossings := He.noat_ok (c.fa 79)
  a_RingBlocks_around := He.noat_ok (c.fa 80)
  a_RingBlocks_walkers := He.noat_ok (c.fa 81)
  a_RingBlocks_limits := He.noat_ok (c.fa 82)
  a_RingBlocks_firsts := He.noat_ok (c.fa 83)
  a_RingBlocks_crossings := He.noat_ok (c.fa 84)
  a_RingCrossing_wait := He.noat_ok (c.fa 85)
  a_RingCrossing_length := He.noat_ok (c.fa 86)
  a_RingCrossing_cycle := He.noat_ok (c.fa 87)
  a_RingCrossing_is_empty := He.noat_ok (c.fa 88)
  a_RingCrossing_step := He.noat_ok (c.fa 89)
  a_RingCrossing_start := He.noat_ok (c.fa 90)
  a_RingCrossing_slope := He.noat_ok (c.fa 91)
  a_RingCrossing_offset := He.noat_ok (c.fa 92)
  a_Ring_parts := He.noat_ok (c.fa 93)
  a_Ring_limits := He.noat_ok (c.fa 94)
  a_Ring_halts := He.noat_ok (c.fa 95)
  a_Painter_parts := He.noat_ok (c.fa 96)
  a_Fence_listed := He.noat_ok (c.fa 97)
  a_Fence_places := He.noat_ok (c.fa 98)
  a_History_painted := He.noat_ok (c.fa 99)
  a_History_limits := He.noat_ok (c.fa 100)
  a_History_halts := He.noat_ok (c.fa 101)
  m_Crossing_number := He.meth_ok (c.fa 102)
  m_Crossing_other_number := He.meth_ok (c.fa 103)
  m_Crossing_bounds := He.meth_ok (c.fa 104)
  m_Crossing_first_block := He.meth_ok (c.fa 105)
  m_Blocks_crossing := He.meth_ok (c.fa 106)
  m_Blocks_look := He.meth_ok (c.fa 107)
  m_Blocks_first_of := He.meth_ok (c.fa 108)
  m_Blocks_next_stop := He.meth_ok (c.fa 109)
  m_Blocks_settle := He.meth_ok (c.fa 110)
  m_Blocks_all_stops := He.meth_ok (c.fa 111)
  m_RingCrossing_first_block := He.meth_ok (c.fa 112)
  m_RingCrossing_first_rising := He.meth_ok (c.fa 113)
  m_RingCrossing_first_steady := He.meth_ok (c.fa 114)
  m_RingBlocks_crossing := He.meth_ok (c.fa 115)
  m_Ring_row := He.meth_ok (c.fa 116)
  m_Ring_getitem := He.meth_ok (c.fa 117)
  m_Painter_post_after := He.meth_ok (c.fa 118)
  m_Fence_need_name := He.meth_ok (c.fa 119)
  m_Fence_len := He.meth_ok (c.fa 120)
  m_Fence_contains := He.meth_ok (c.fa 121)
  m_Fence_add := He.meth_ok (c.fa 122)
  m_Fence_moved := He.meth_ok (c.fa 123)
  m_Fence_widened := He.meth_ok (c.fa 124)
  m_History_row := He.meth_ok (c.fa 125)
  m_RingBlocks_look := He.meth_ok (c.fa 126)
  m_RingBlocks_first_of := He.meth_ok (c.fa 127)
  m_RingBlocks_next_stop := He.meth_ok (c.fa 128)
  m_RingBlocks_settle := He.meth_ok (c.fa 129)
  m_RingBlocks_all_stops := He.meth_ok (c.fa 130)
  p_Ring_fence := propB_ok (c.ex 0)
  p_Painter_name := propB_ok (c.ex 1)
  p_Painter_day := propB_ok (c.ex 2)
  p_Painter_post := propB_ok (c.ex 3)
  p_Painter_stride := propB_ok (c.ex 4)
  p_Painter_way := propB_ok (c.ex 5)
  p_Fence_painters := propB_ok (c.ex 6)
  p_Fence_names := propB_ok (c.ex 7)
  p_History_rows := propB_ok (c.ex 8)
  p_History_last_day := propB_ok (c.ex 9)
  o_Fence_len := ⟨(He.meth_ok (c.fa 120)).at_, (He.meth_ok (c.fa 120)).fn⟩
  o_Fence_contains := ⟨(He.meth_ok (c.fa 121)).at_, (He.meth_ok (c.fa 121)).fn⟩
  o_Fence_add := ⟨(He.meth_ok (c.fa 122)).at_, (He.meth_ok (c.fa 122)).fn⟩
  o_Ring_getitem := ⟨(He.meth_ok (c.fa 117)).at_, (He.meth_ok (c.fa 117)).fn⟩
  n_Painter_MAX_DAY := conB_ok (c.ex 10)
  n_Painter_MAX_POST := conB_ok (c.ex 11)
  n_Painter_MAX_STRIDE := conB_ok (c.ex 12)
  ip1 := He.eqO_ok (c.ex 14)
  ip2 := He.eqO_ok (c.ex 15)
  ad4 := He.eqO_ok (c.ex 22)
  ad5 := He.eqO_ok (c.ex 23)
  ad6 := He.eqO_ok (c.ex 24)
  ip3 := of_decide_eq_true (c.ex 16)
  ip4 := of_decide_eq_true (c.ex 17)
  ip5 := of_decide_eq_true (c.ex 18)
  ad1 := of_decide_eq_true (c.ex 19)
  ad7 := of_decide_eq_true (c.ex 25)
  ad2 := c.ex 20
  ad3 := c.ex 21
  gi1 := c.ex 26
  d_is_integer := c.fd 0 rfl rfl
  d_is_between := c.fd 1 rfl rfl
  d_need_count := c.fd 2 rfl rfl
  d_inverse := c.fd 3 rfl rfl
  d_greatest_divisor := c.fd 4 rfl rfl
  d_least_fit := c.fd 5 rfl rfl
  d_least_true := c.fd 6 rfl rfl
  d_floor_sum := c.fd 7 rfl rfl
  d_remainders_below := c.fd 8 rfl rfl
  d_ceiling := c.fd 9 rfl rfl
  d_is_name := c.fd 10 rfl rfl
  d_history := c.fd 11 rfl rfl
  d_law_pen := c.fd 12 rfl rfl
  d_law_draw := c.fd 13 rfl rfl
  d_law_pick := c.fd 14 rfl rfl
  d_law_around := c.fd 15 rfl rfl
  d_law_power := c.fd 16 rfl rfl
  d_law_great := c.fd 17 rfl rfl
  d_law_names := c.fd 18 rfl rfl
  d_law_small := c.fd 19 rfl rfl
  d_law_fence := c.fd 20 rfl rfl
  d_law := c.fd 21 rfl rfl
  d_Crossing_init := c.fd 22 rfl rfl
  d_Crossing_number := c.fd 23 rfl rfl
  d_Crossing_other_number := c.fd 24 rfl rfl
  d_Crossing_bounds := c.fd 25 rfl rfl
  d_Crossing_first_block := c.fd 26 rfl rfl
  d_Blocks_init := c.fd 27 rfl rfl
  d_Blocks_crossing := c.fd 28 rfl rfl
  d_Blocks_look := c.fd 29 rfl rfl
  d_Blocks_first_of := c.fd 30 rfl rfl
  d_Blocks_next_stop := c.fd 31 rfl rfl
  d_Blocks_settle := c.fd 32 rfl rfl
  d_Blocks_all_stops := c.fd 33 rfl rfl
  d_RingCrossing_init := c.fd 34 rfl rfl
  d_RingCrossing_first_block := c.fd 35 rfl rfl
  d_RingCrossing_first_rising := c.fd 36 rfl rfl
  d_RingCrossing_first_steady := c.fd 37 rfl rfl
  d_RingBlocks_crossing := c.fd 39 rfl rfl
  d_Ring_init := c.fd 40 rfl rfl
  d_Ring_row := c.fd 41 rfl rfl
  d_Ring_getitem := c.fd 42 rfl rfl
  d_Painter_init := c.fd 43 rfl rfl
  d_Painter_post_after := c.fd 44 rfl rfl
  d_Fence_init := c.fd 45 rfl rfl
  d_Fence_need_name := c.fd 46 rfl rfl
  d_Fence_len := c.fd 47 rfl rfl
  d_Fence_contains := c.fd 48 rfl rfl
  d_Fence_add := c.fd 49 rfl rfl
  d_Fence_moved := c.fd 50 rfl rfl
  d_Fence_widened := c.fd 51 rfl rfl
  d_History_init := c.fd 52 rfl rfl
  d_History_row := c.fd 53 rfl rfl
  d_RingBlocks_look := c.fd 54 rfl rfl
  d_RingBlocks_first_of := c.fd 55 rfl rfl
  d_RingBlocks_next_stop := c.fd 56 rfl rfl
  d_RingBlocks_settle := c.fd 57 rfl rfl
  d_RingBlocks_all_stops := c.fd 58 rfl rfl
  d_Ring_fence := c.fd 59 rfl rfl
  d_Painter_name := c.fd 60 rfl rfl
  d_Painter_day := c.fd 61 rfl rfl
  d_Painter_post := c.fd 62 rfl rfl
  d_Painter_stride := c.fd 63 rfl rfl
  d_Painter_way := c.fd 64 rfl rfl
  d_Fence_painters := c.fd 65 rfl rfl
  d_Fence_names := c.fd 66 rfl rfl
  d_History_rows := c.fd 67 rfl rfl
  d_History_last_day := c.fd 68 rfl rfl
theorem init_of {K : PySem.W.Frag} {h : Heap} (c : SaysP h K) : InitR rowP K := by
  obtain ⟨e, ok⟩ := c.df 38 rfl
  obtain ⟨oc, od, cl, dV, kV, doc, pm, an, cdv, ct, osl, lk, hcl, h1, h2, kp⟩ := DefX.is e ok
  obtain ⟨cda, rfl⟩ := He.codeIn_ref h1
  obtain ⟨cc, rfl⟩ : ∃ cc : Addr, cl = [(("__class__" : Str), cc)] := by
    match cl, hcl with
    | [(x, cc)], hcl =>
      have hx : x = ("__class__" : Str) := (List.cons.inj hcl).1
      exact ⟨cc, by rw [hx]⟩
  obtain rfl : dV = .none := by
    cases dV with
    | none => rfl
    | _ => cases h2
  have lk : K.lookup (He.ma K (He.ga K "RingBlocks") "__init__") = some ⟨oc, od, .func (PySem.W.ksFn "__init__" "RingBlocks.__init__" (defArgs s_RingBlocks_init) (defBody s_RingBlocks_init) (defScope s_RingBlocks_init) .none kV doc pm an (.ref cda) ct cc), osl⟩ := lk
  have ecda : cdaR K = cda := by unfold cdaR; rw [lk]
  have ecc : ccR K = cc := by unfold ccR; rw [lk]
  have hf := c.ex 33
  have hcell := c.ex 34
  have hf : fileB K (cdaR K) = true := hf
  have hcell : cellB K (ccR K) (He.ga K "RingBlocks") = true := hcell
  rw [ecda] at hf
  rw [ecc] at hcell
  obtain ⟨ar, ha1, ha2⟩ : ∃ ar : Arg, ((defArgs s_RingBlocks_init).posonlyargs ++ (defArgs s_RingBlocks_init).args).head? = some ar ∧ ar.arg = "self" := ⟨_, rfl, rfl⟩
  refine ⟨oc, od, kV, doc, pm, an, cda, ct, osl, cc, ar, lk, h1, ha2, ⟨_, _, lk, rfl, ha1⟩, ?_, ?_, of_decide_eq_true (c.ex 28), by decide +kernel, He.eqO_ok (c.ex 29), He.eqO_ok (c.ex 30), of_decide_eq_true (c.ex 31), c.ex 32⟩
  · unfold fileB at hf
    split at hf
    · rename_i vs _ e1
      split at hf
      · rename_i file tf e2
        exact ⟨_, vs, file, tf, e1, rfl, e2, hf⟩
      · cases hf
    · cases hf
  · unfold cellB at hcell
    split at hcell
    · rename_i D _ e1
      have := of_decide_eq_true hcell
      subst this
      exact ⟨_, e1, rfl⟩
    · cases hcell
theorem tne_of {K : PySem.W.Frag} {h : Heap} (c : SaysP h K) : (He.cT K pR).2 ≠ (He.cT K pS).2 := of_decide_eq_true (c.ex 27)
end PP
end
section
set_option maxHeartbeats 4000000
/-! From the Hook's word to the row's call. -/
namespace PR
open PySem PySem.Spec PyProof.Rows L2 StX NdefX LamX
/-- what must be known behind the top -/
def ToldA (l : PySem.W.OpenLaw) (n : Nat) (w : World) (mg : Str → Option Value) (fa : Addr) (h : Heap) : Prop := ∃ (K : PySem.W.Frag) (cs : List (Addr × Addr)) (sp : Sp), K.In h ∧ (∀ p ∈ cs, h.get? p.2 = some { cls := .none, data := .fields #[] }) ∧ (∀ p ∈ cs, K.lookup p.2 = none) ∧ (∀ p ∈ cs, PySem.W.CodeHd h p.1 p.2) ∧
  (∀ (H : Hp) (a : Addr) (zs : List Int), (∀ p ∈ cs, H p.2 = some (.tbl #[])) → SqL K H a (zs.map V.int) → sp [.ref a] H (fun v _ => v = .bl true) E0) ∧ ∀ base : Heap, K.In base → base.Ns mainGlobals mg → (∀ p ∈ cs, TabB base mg p.1 p.2) → FnA l.prog w K mg base callerA fa sp
theorem walkA {l : PySem.W.OpenLaw} {n : Nat} {q : Program} {loose : List Str} {XP : (Str → Option Value) → Heap → Prop} {YP : World → Heap → Prop} {d : DefRec} (hn : l.most = some n) (hz : n ≤ sizeLine) (hd : d.params.defaults = [])
    (F : ∀ (w : World) (mg : Str → Option Value) (fa : Addr) (h : Heap), YP w h → h.Ns mainGlobals mg → mg d.name = some (.ref fa) → ToldA l n w mg fa h) : PySem.W.WalkO q loose XP YP l.row.toRowW d [] (fun f vs => PySem.call f vs) := by
  refine Att.attach_callB hn hd fun w s₀ s₁ mg mb fa o pm cd doc a vs ns G Y h1 h2 h3 hmg hobj hints hlen hbits hg => ?_
  obtain ⟨K, cs, sp, kx, te, tk, tc, hsp, hF⟩ := F w mg fa _ Y G.T.g hmg
  exact law_callA (mb := mb) (us := vs) ⟨kx, G.T.g, G.T.b, G.T.builtins, G.T.nolimit, hg, te, tk, tc, G.T.bmain, hobj, hints, Nat.le_trans hlen hz⟩ hF fun H hH hS => hsp H a ns hH hS
end PR
namespace PP
open PySem PySem.Spec PyProof.Rows L2 PR LamX NdefX
theorem tbls_of {K : PySem.W.Frag} {H : Hp} (hH : ∀ p ∈ [He.cT K pR, He.cT K pS], H p.2 = some (.tbl #[])) : TabsN (tbl K) H := fun t ht => by
  rcases List.mem_cons.mp ht with rfl | ht
  · exact TabN.nil (hH _ (List.mem_cons_self ..))
  · rcases List.mem_cons.mp ht with rfl | ht
    · exact TabN.nil (hH _ (List.mem_cons_of_mem _ (List.mem_cons_self ..)))
    · cases ht
theorem told {w : World} {mg : Str → Option Value} {fa : Addr} {h : Heap} (hr : Room 21 callerA) (Y : hookP.says w h) (G : h.Ns mainGlobals mg) (hfa : mg ("law" : Str) = some (.ref fa)) : ToldA PySem.Challenge.rw_paintposts_k98_whole_rings_that_nobody_r 63 w mg fa h := by
  obtain ⟨K, X, c⟩ := Y
  have T := txt_of X G c
  have e := hfa.symm.trans T.g_law
  cases e
  refine ⟨K, [He.cT K pR, He.cT K pS], spLaw K, X, fun p hp => ?_, fun p hp => ?_, fun p hp => ?_, fun H a zs hH hS => ⟨a, zs, rfl, hS, tbls_of hH, fun _ => rfl⟩, fun base kx hns ht => ?_⟩
  · rcases List.mem_cons.mp hp with rfl | hp
    · exact c.empty _ (List.mem_cons_self ..)
    · rw [List.mem_singleton.mp hp]
      exact c.empty _ (List.mem_cons_of_mem _ (List.mem_cons_self ..))
  · rcases List.mem_cons.mp hp with rfl | hp
    · exact c.out _ (List.mem_cons_self ..)
    · rw [List.mem_singleton.mp hp]
      exact c.out _ (List.mem_cons_of_mem _ (List.mem_cons_self ..))
  · rcases List.mem_cons.mp hp with rfl | hp
    · exact PySem.W.codeHd_of_K X (c.hd _ (List.mem_cons_self ..))
    · rw [List.mem_singleton.mp hp]
      exact PySem.W.codeHd_of_K X (c.hd _ (List.mem_cons_of_mem _ (List.mem_cons_self ..)))
  · exact ok_law T ⟨ht _ (List.mem_cons_self ..), ht _ (List.mem_cons_of_mem _ (List.mem_cons_self ..)), tne_of c⟩ (init_of c) hr
end PP
end
section
set_option maxHeartbeats 0
open PySem PySem.W PySem.Calls PyProof.Rows
theorem PySem.Challenge.cw_paintposts_k98_whole_rings_that_nobody_r_holds : PySem.Challenge.rw_paintposts_k98_whole_rings_that_nobody_r.Holds := by
  w_on; o_law
  refine HandSHeadRun.head_any (r := PH.R) (q := PH.qv) (H := PP.hookP) (ob := PH.ob) (M := 20000) (loose := PH.names) (d := HandSHeadRun.topDef PH.R.prog 69) (kwd := []) PH.ob_eq
    (by kernel_rfl) (fun s => by kernel_rfl) PH.run (by kernel_rfl) (by kernel_rfl) (by kernel_rfl) (by rfl) (by first | assumption | decide +kernel) (by decide +kernel) ⟨rfl, rfl, rfl, rfl, rfl, by decide +kernel⟩ ?hw ?hc
  case hw => w_witness2
  case hc =>
    refine PR.walkA (l := PySem.Challenge.rw_paintposts_k98_whole_rings_that_nobody_r) (n := 63) rfl (by decide) (by kernel_rfl) fun w mg fa h Y G hmg0 => ?_
    have hmg : mg ("law" : PySem.Str) = some (.ref fa) := by
      have e : (HandSHeadRun.topDef PH.R.prog 69).name = ("law" : PySem.Str) := by kernel_rfl
      rw [← e]
      exact hmg0
    exact PP.told ⟨rfl, by decide, by decide⟩ Y G hmg
end
