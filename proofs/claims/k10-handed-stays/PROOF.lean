import PyProof.Rows.All
import Wide.All
import OpenK.AllK
import Wide.FinOn
import HandS.ForMost
import HandS.ForExc
import HandS.Evl
import HandS.Steps
import HandS.IsInst
import HandS.Deep
import HandS.Style
import HandS.WideBits
import HandS.EndBits
import HandS.SortInts
import HandS.Zip
import KE.SortData
import HandS.ExcIs
import HandS.ExcCtx
import HandS.HotCalls
import HandS.Lambda
import HandS.Nested
import HandS.EndOwn
import HandS.Conv
import HandS.SetKeys
import KE.KDictKeyed
import KE.DataMinMax
import HandS.Walk
import PySem.Challenge.RW_sidering_k10_handed_stays
set_option Elab.async false
set_option linter.all false
set_option maxRecDepth 100000
set_option maxHeartbeats 4000000

/-! Rules of our own over the hand layer: C() of a class without an own __init__, one of several readings. -/
namespace Sd
open PySem L2 Evl
def tAlt (t u : TE) : TE := fun σ H Q => t σ H Q ∨ u σ H Q
/-- C(), no __init__ but object's -/
def tBare (C : Addr) : TE := fun σ H Q => ∀ x dx, H x = none → H dx = none → dx ≠ x → Q (.ref x) (upd (upd H dx (.own x)) x (.ins C dx []))
structure Mk0 (K : PySem.W.Frag) (C : Addr) : Prop where
  makes : PySem.W.makesIn K C = true
  init : PySem.W.findIn K (.ref C) "__init__" = some (some (.builtin "object.__init__"))
  kp : PySem.W.keepIn K (.ref C) = true
section
variable {X : Cx} {C : Addr} {x : Str} {p pos : Pos} {e : Expr} {t u : TE}
theorem pe_alt (h1 : PE X e t) (h2 : PE X e u) : PE X e (tAlt t u) := ⟨fun pins s σ H Q I h => h.elim (h1.run pins s σ H Q I) (h2.run pins s σ H Q I)⟩
theorem run_bare {pins : List (Addr × Obj)} {σ : St} {H : Hp} {s : Shared} {Q : VK} (M : Mk0 X.K C) (I : Inv X pins σ H s)
    (h : ∀ x dx, H x = none → H dx = none → dx ≠ x → Q (.ref x) (upd (upd H dx (.own x)) x (.ins C dx []))) : wpAny (model X.prog X.w) X.A (call (.ref C) []) (EP X pins σ Q) X.xe s := by
  have hq := h (s.heap.objs.size + 1) s.heap.objs.size (I.hok.fresh (Nat.le_succ _)) (I.hok.fresh (Nat.le_refl _)) (Nat.ne_of_lt (Nat.lt_succ_self _))
  have I2 := Inv.made (C := C) I
  have Y := PySem.W.makes_of (M := model X.prog X.w) I.kIn M.makes
  refine wpAny_call (make_map0 I.kIn M.makes M.init (fun self => PySem.W.Looks.of_pure (PySem.W.oi_bind self)) ?_)
  have hx : ((s.heap.push PySem.W.emptyDict).push (PySem.W.instObj C s.heap.objs.size)).get? (s.heap.objs.size + 1) = some (PySem.W.instObj C s.heap.objs.size) := by
    have := Heap.get?_push_size (s.heap.push PySem.W.emptyDict) (o := PySem.W.instObj C s.heap.objs.size) rfl
    rwa [Heap.size_push] at this
  have t1 : PySem.W.Looks (model X.prog X.w) ((s.heap.push PySem.W.emptyDict).push (PySem.W.instObj C s.heap.objs.size)) (typeOf (.ref (s.heap.objs.size + 1))) (.ref C) := (PySem.W.Looks.ld hx).andThen .now
  have t2 : PySem.W.Looks (model X.prog X.w) ((s.heap.push PySem.W.emptyDict).push (PySem.W.instObj C s.heap.objs.size)) (isInstance (.ref (s.heap.objs.size + 1)) (.type "object")) true := t1.andThen (Y.top.keeps fun b o e => Heap.get?_push_of_some _ (Heap.get?_push_of_some _ e))
  refine codeAny_call_builtin PySem.W.oi_plain PySem.W.entry_oi (@PySem.W.check_slot (model X.prog X.w) _ _ _ "object.__init__" "object" "__init__" (.ref (s.heap.objs.size + 1)) [] [] _ PySem.W.oi_kind PySem.W.oi_split t2 (PySem.W.oi_args (.ref (s.heap.objs.size + 1))) ?_)
  rw [PySem.W.oi_run]
  exact wpAny_pure (And.intro rfl ⟨V.ref (s.heap.objs.size + 1), _, I2, rfl, hq⟩)
theorem pe_bare (M : Mk0 X.K C) (hg : Gl X x) (hm : X.mg x = some (.ref C)) (hdb : (x == ("__debug__" : Str)) = false := by decide) : PE X (.Call (.Name x p) [] [] pos) (tBare C) := by
  refine ⟨fun pins s σ H Q I h => ?_⟩
  refine wpAny_Call_Name_kw (ld_glob I hg hm ?_ hdb)
  exact PySem.W.callWith_K0 I.kIn M.kp (run_bare M I h)
end
/-! ### sorted of data -/
/-- sorted(xs), each item some data: the same items, merge sorted by their data -/
def rSortV {γ : Type} (enc : γ → PyData) (K : PySem.W.Frag) : List V → Hp → VK → Prop := fun vs H Q => ∃ a, ∃ bs : List (V × γ), vs = [.ref a] ∧ SqL K H a (bs.map (·.1)) ∧ (∀ b ∈ bs, Dp K H b.1 (enc b.2)) ∧
  PySem.W.AllAlike (bs.map fun b => enc b.2) ∧ PySem.W.Sortable (bs.map fun b => enc b.2) ∧ (∀ b ∈ bs, (enc b.2).depth ≤ 40) ∧ ∀ p, H p = none → Q (.ref p) (upd H p (.lst ((bs.mergeSort (PySem.W.dataLe false fun b => enc b.2)).map (·.1))))
theorem each_of {γ : Type} {enc : γ → PyData} {X : Cx} {pins : List (Addr × Obj)} {σ : St} {H : Hp} {s : Shared} (I : Inv X pins σ H s) : ∀ {bs : List (V × γ)} {its : List Value}, Vals (bs.map (·.1)) its → (∀ b ∈ bs, Dp X.K H b.1 (enc b.2)) →
    PySem.W.EachIs (fun u b => RelV b.1 u) its bs ∧ PySem.W.EachIs (fun u b => ∃ as, Reads s.heap u (enc b.2) as) its bs
  | [], _, .nil, _ => ⟨.nil, .nil⟩
  | b :: bs, u :: us, .cons h hs, hd => by
    have ih := each_of I hs fun c hc => hd c (List.mem_cons_of_mem _ hc)
    exact ⟨.cons h ih.1, .cons (Dp.reads I _ _ _ (hd b List.mem_cons_self) h) ih.2⟩
theorem vals_of_each {γ : Type} : ∀ {bs : List (V × γ)} {its : List Value}, PySem.W.EachIs (fun u b => RelV b.1 u) its bs → Vals (bs.map (·.1)) its
  | [], _, .nil => .nil
  | _ :: _, _, .cons h t => .cons h (vals_of_each t)
theorem cr_sortV {γ : Type} {enc : γ → PyData} {X : Cx} (hu : X.A.units + 64 < cLine) : CallR X (.builtin "sorted") (rSortV enc X.K) := by
  intro pins s σ H vs us Q I r h
  obtain ⟨a, bs, rfl, hs, hd, hal, hk, hdep, q⟩ := h
  obtain ⟨its, rv, hl, hz⟩ := I.list hs
  rw [Vals.ref1 r]
  obtain ⟨e, er⟩ := each_of I rv hd
  have hlen : bs.length ≤ sizeLine := by rw [List.length_map] at hz; exact hz
  refine PySem.W.sorted_data hl.isList e er hal hk hlen (fun b hb => by have := hdep b hb; omega) fun out ho eo => ?_
  obtain ⟨ep, he'⟩ := PyProof.Rows.sortedAll_at s.heap its out.toArray
  have rv' := vals_of_each eo
  have hl2 : ((bs.mergeSort (PySem.W.dataLe false fun b => enc b.2)).map (·.1)).length ≤ sizeLine := by
    rw [List.length_map, List.length_mergeSort]
    exact hlen
  exact ⟨.ref _, upd H (s.heap.objs.size + 1) (.lst ((bs.mergeSort (PySem.W.dataLe false fun b => enc b.2)).map (·.1))), I.laid (t' := s.toks) (fun _ _ => PyProof.Rows.sortedAll_old) (Nat.le_succ _) ⟨hl2, out, ep, rv', he'⟩, rfl, q _ (I.hok.fresh (Nat.le_succ _))⟩
/-! ### isinstance of an own class -/
theorem kit_sub {K : PySem.W.Frag} {x y : Addr} (hc : PySem.W.isClsIn K y = true) (ht : PySem.W.typeIn K (.ref y) = some (.type "type")) (hs : PySem.W.subIn K (.ref x) (.ref y) = some true) : PySem.W.kitOne K (.ref x) (.ref y) = some true := by
  unfold PySem.W.kitOne
  split
  · rfl
  · unfold PySem.W.kitCls
    dsimp only
    have : ((PySem.W.clsIn K y).isSome && PySem.W.typeIn K (.ref y) == some (.type "type")) = true := by
      rw [ht]
      simp only [beq_self_eq_true, Bool.and_true]
      exact hc
    rw [if_pos this]
    exact hs
theorem kit_not {K : PySem.W.Frag} {x y : Addr} (hc : PySem.W.isClsIn K y = true) (ht : PySem.W.typeIn K (.ref y) = some (.type "type")) (hs : PySem.W.subIn K (.ref x) (.ref y) = some false) (hy : PySem.W.subIn K (.ref y) (.ref y) = some true) : PySem.W.kitOne K (.ref x) (.ref y) = some false := by
  have ne : ¬ ((Value.ref x == Value.ref y) = true) := fun e => by
    have : Value.ref x = Value.ref y := beq_iff_eq.mp e
    rw [this, hy] at hs
    cases hs
  unfold PySem.W.kitOne
  rw [if_neg ne]
  unfold PySem.W.kitCls
  dsimp only
  have : ((PySem.W.clsIn K y).isSome && PySem.W.typeIn K (.ref y) == some (.type "type")) = true := by
    rw [ht]
    simp only [beq_self_eq_true, Bool.and_true]
    exact hc
  rw [if_pos this]
  exact hs
theorem kit_self {K : PySem.W.Frag} {x : Addr} : PySem.W.kitOne K (.ref x) (.ref x) = some true := by
  unfold PySem.W.kitOne
  rw [if_pos (beq_iff_eq.mpr rfl)]
end Sd

/-! The words used for all laws: operations by name, what evaluates to what (over Evl), data, comprehensions. -/
namespace Sd
open PySem L2 Evl

abbrev oAdd : R2 := rI0 fun i j => .int (i + j)
abbrev oSub : R2 := rI0 fun i j => .int (i - j)
abbrev oMul : R2 := rI CMul fun i j => .int (i * j)
abbrev oMulX : R2 := rI CMulX fun i j => .int (i * j)
abbrev oDiv : R2 := rI CDiv fun i j => .int (i / j)
abbrev oMod : R2 := rI (fun _ j => 0 < j) fun i j => .int (i % j)
abbrev oPow : R2 := rI CPow fun i j => .int (i ^ j.toNat)
abbrev oShl : R2 := rI CPow fun i j => .int (i * 2 ^ j.toNat)
abbrev oShr : R2 := rI (fun _ j => 0 ≤ j) fun i j => .int (i / 2 ^ j.toNat)
abbrev oAnd : R2 := rI0 fun i j => .int (Builtin.bitAnd i j)
abbrev oLt : R2 := rI0 fun i j => .bl (decide (i < j))
abbrev oLe : R2 := rI0 fun i j => .bl (decide (i ≤ j))
abbrev oGt : R2 := rI0 fun i j => .bl (decide (j < i))
abbrev oGe : R2 := rI0 fun i j => .bl (decide (j ≤ i))
abbrev oNeg : V → Hp → VK → Prop := rU fun i => .int (-i)
abbrev rAbs : List V → Hp → VK → Prop := fun xs H Q => ∃ i, xs = [.int i] ∧ Q (.int (if i < 0 then -i else i)) H
theorem hu65 {A : Around} {k : Nat} (hr : Room k A) : A.units + 65 < cLine := by
  have := hr.un
  omega

theorem start_eq {N : List Str} {vs : List V} {n : Nat} (h : N.length = n) : L2.start N vs = vs.map some ++ List.replicate (n - vs.length) none := by
  subst h
  rfl
/-! ### sources: a list, a tuple, data -/
def EvS (K : PySem.W.Frag) (te : TE) (σ : L2.St) (H : Hp) (xs : List V) : Prop := ∀ H1, Ex H H1 → ∀ Q : VK, (∀ p H2, Ex H1 H2 → SqL K H2 p xs → Q (.ref p) H2) → te σ H1 Q
def EvST (K : PySem.W.Frag) (te : TE) (σ : L2.St) (H : Hp) (xs : List V) : Prop := ∀ H1, Ex H H1 → ∀ Q : VK, (∀ p H2, Ex H1 H2 → SqT K H2 p xs → Q (.ref p) H2) → te σ H1 Q
def EvD (K : PySem.W.Frag) (te : TE) (σ : L2.St) (H : Hp) (d : PyData) : Prop := ∀ H1, Ex H H1 → ∀ Q : VK, (∀ v H2, Ex H1 H2 → Dp K H2 v d → Q v H2) → te σ H1 Q
/-- any result: R of the heap ahead, the value, the heap behind -/
def EvP (te : TE) (σ : L2.St) (H : Hp) (R : Hp → V → Hp → Prop) : Prop := ∀ H1, Ex H H1 → ∀ Q : VK, (∀ v H2, Ex H1 H2 → R H1 v H2 → Q v H2) → te σ H1 Q

mutual
theorem Dp.mono {K : PySem.W.Frag} {H H' : Hp} (e : Ex H H') : ∀ {v : V} {d : PyData}, Dp K H v d → Dp K H' v d
  | _, _, .non => .non
  | _, _, .bl b => .bl b
  | _, _, .int i => .int i
  | _, _, .str x => .str x
  | _, _, .lst h hs => .lst (ex_l e h) (DpAll.mono e hs)
  | _, _, .tup h hs => .tup (ex_t e h) (DpAll.mono e hs)
theorem DpAll.mono {K : PySem.W.Frag} {H H' : Hp} (e : Ex H H') : ∀ {vs : List V} {ds : List PyData}, DpAll K H vs ds → DpAll K H' vs ds
  | _, _, .nil => .nil
  | _, _, .cons h hs => .cons (Dp.mono e h) (DpAll.mono e hs)
end
def dI (ns : List Int) : PyData := .list (ns.map PyData.int)
theorem dpAll_ints {K : PySem.W.Frag} {H : Hp} : ∀ ns : List Int, DpAll K H (ns.map V.int) (ns.map PyData.int)
  | [] => .nil
  | n :: r => .cons (.int n) (dpAll_ints r)
theorem dp_ints {K : PySem.W.Frag} {H : Hp} {a : Addr} {ns : List Int} (h : SqL K H a (ns.map V.int)) : Dp K H (.ref a) (dI ns) := .lst h (dpAll_ints ns)

section
variable {K : PySem.W.Frag} {σ : L2.St} {H H' : Hp} {ta tb tc te tl : TE} {t u : TT} {x y z v : V} {r r' : R2} {xs ys : List V} {d d' : PyData} {a : Addr}
theorem EvS.mono (e : Ex H H') (h : EvS K te σ H xs) : EvS K te σ H' xs := fun H1 e1 Q q => h H1 (e.trans e1) Q q
theorem EvD.mono (e : Ex H H') (h : EvD K te σ H d) : EvD K te σ H' d := fun H1 e1 Q q => h H1 (e.trans e1) Q q
theorem EvP.mono {R : Hp → V → Hp → Prop} (e : Ex H H') (h : EvP te σ H R) : EvP te σ H' R := fun H1 e1 Q q => h H1 (e.trans e1) Q q
theorem es_of (h : Ev te σ H (.ref a)) (hs : SqL K H a xs) : EvS K te σ H xs := fun H1 e Q q => h H1 e Q fun H2 e2 => q a H2 e2 (ex_l (e.trans e2) hs)
theorem es_new (h : EvL te σ H xs) : EvS K te σ H xs := fun H1 e Q q => h H1 e Q fun p H2 _ e2 hp => q p H2 e2 (sq_of hp)
theorem est_of (h : Ev te σ H (.ref a)) (hs : SqT K H a xs) : EvST K te σ H xs := fun H1 e Q q => h H1 e Q fun H2 e2 => q a H2 e2 (ex_t (e.trans e2) hs)
theorem est_new (h : EvU te σ H xs) : EvST K te σ H xs := fun H1 e Q q => h H1 e Q fun p H2 _ e2 hp => q p H2 e2 (st_of hp)
theorem ed_of (h : Ev te σ H v) (hd : Dp K H v d) : EvD K te σ H d := fun H1 e Q q => h H1 e Q fun H2 e2 => q v H2 e2 (Dp.mono (e.trans e2) hd)
theorem ed_ints {ns : List Int} (h : EvS K te σ H (ns.map V.int)) : EvD K te σ H (dI ns) := fun H1 e Q q => h H1 e Q fun p H2 e2 hp => q _ H2 e2 (dp_ints hp)
theorem ed_p {R : Hp → V → Hp → Prop} (h : EvP te σ H R) (hd : ∀ H1 v H2, R H1 v H2 → Dp K H2 v d) : EvD K te σ H d := fun H1 e Q q => h H1 e Q fun v H2 e2 hr => q v H2 e2 (hd _ _ _ hr)
theorem ep_v (h : Ev te σ H v) : EvP te σ H (fun _ w _ => w = v) := fun H1 e Q q => h H1 e Q fun H2 e2 => q v H2 e2 rfl
theorem ep_imp {R R' : Hp → V → Hp → Prop} (h : EvP te σ H R) (hr : ∀ H1 v H2, Ex H H1 → R H1 v H2 → R' H1 v H2) : EvP te σ H R' := fun H1 e Q q => h H1 e Q fun v H2 e2 z => q v H2 e2 (hr _ _ _ e z)
/-! ### operations -/
theorem ev_eqD (ha : EvD K ta σ H d) (hb : EvD K tb σ H d') (h1 : SeqAt.shaped d = true) (h2 : SeqAt.shaped d' = true) : Ev (tOp (rEqD K) ta tb) σ H (.bl (PyData.eqv d d')) := fun H1 e Q q =>
  ha H1 e _ fun v H2 e2 h => hb H2 (e.trans e2) _ fun w H3 e3 h' => ⟨d, d', Dp.mono e3 h, h', h1, h2, q H3 (e2.trans e3)⟩
theorem ev_neD (ha : EvD K ta σ H d) (hb : EvD K tb σ H d') (h1 : SeqAt.shaped d = true) (h2 : SeqAt.shaped d' = true) : Ev (tOp (rNeD K) ta tb) σ H (.bl (!PyData.eqv d d')) := fun H1 e Q q =>
  ha H1 e _ fun v H2 e2 h => hb H2 (e.trans e2) _ fun w H3 e3 h' => ⟨d, d', Dp.mono e3 h, h', h1, h2, q H3 (e2.trans e3)⟩
theorem ev_inD {ds : List PyData} (ha : EvD K ta σ H d) (hb : EvD K tb σ H (.list ds)) (h1 : SeqAt.shaped d = true) (h2 : SeqAt.shaped (.list ds) = true) : Ev (tOp (rInD K) ta tb) σ H (.bl (ds.any fun z => PyData.eqv z d)) := fun H1 e Q q =>
  ha H1 e _ fun v H2 e2 h => hb H2 (e.trans e2) _ fun w H3 e3 h' => ⟨d, ds, Dp.mono e3 h, h', h1, h2, q H3 (e2.trans e3)⟩
theorem ev_notInD {ds : List PyData} (ha : EvD K ta σ H d) (hb : EvD K tb σ H (.list ds)) (h1 : SeqAt.shaped d = true) (h2 : SeqAt.shaped (.list ds) = true) : Ev (tOp (rNotInD K) ta tb) σ H (.bl (!ds.any fun z => PyData.eqv z d)) := fun H1 e Q q =>
  ha H1 e _ fun v H2 e2 h => hb H2 (e.trans e2) _ fun w H3 e3 h' => ⟨d, ds, Dp.mono e3 h, h', h1, h2, q H3 (e2.trans e3)⟩
theorem ev_chain {b b' : Bool} (ha : Ev ta σ H x) (hb : Ev tb σ H y) (hr : RV r x y H (.bl b)) (hc : b = true → Ev tc σ H z) (hr' : b = true → RV r' y z H (.bl b')) : Ev (tChain r r' ta tb tc) σ H (.bl (b && b')) := fun H1 e Q q =>
  ha H1 e _ fun H2 e2 => hb H2 (e.trans e2) _ fun H3 e3 => hr H3 ((e.trans e2).trans e3) _ fun H4 e4 => ⟨b, rfl, by
    cases b with
    | true =>
      show tc σ H4 _
      refine hc rfl H4 (((e.trans e2).trans e3).trans e4) _ fun H5 e5 => ?_
      exact hr' rfl H5 ((((e.trans e2).trans e3).trans e4).trans e5) Q fun H6 e6 => q H6 ((((e2.trans e3).trans e4).trans e5).trans e6)
    | false =>
      show Q (.bl false) H4
      exact q H4 ((e2.trans e3).trans e4)⟩
theorem ev_lenS {xs : List V} (ha : EvS K ta σ H xs) : Ev (tCB (rLenS K) (tCons ta tNil)) σ H (.int (xs.length : Int)) := fun H1 e Q q =>
  ha H1 e _ fun p H2 e2 h2 => ⟨p, xs, rfl, Or.inl h2, q H2 e2⟩
theorem ev_lenT {xs : List V} (ha : EvST K ta σ H xs) : Ev (tCB (rLenS K) (tCons ta tNil)) σ H (.int (xs.length : Int)) := fun H1 e Q q =>
  ha H1 e _ fun p H2 e2 h2 => ⟨p, xs, rfl, Or.inr h2, q H2 e2⟩
theorem el_listS {xs : List V} (ha : EvS K ta σ H xs) : EvL (tCB (rListS K) (tCons ta tNil)) σ H xs := fun H1 e Q q =>
  ha H1 e _ fun p H2 e2 h2 => ⟨p, xs, rfl, Or.inl h2, fun l hl => q l _ (fresh_back e2 hl) (e2.trans (Ex.new hl)) upd_same⟩
theorem ev_sumS {ns : List Int} (ha : EvS K ta σ H (ns.map V.int)) : Ev (tCB (rSum K) (tCons ta tNil)) σ H (.int ns.sum) := fun H1 e Q q =>
  ha H1 e _ fun p H2 e2 h2 => ⟨p, ns, rfl, h2, q H2 e2⟩
theorem ev_allS {bs : List Bool} (ha : EvS K ta σ H (bs.map V.bl)) : Ev (tCB (rAll K) (tCons ta tNil)) σ H (.bl (bs.all id)) := fun H1 e Q q =>
  ha H1 e _ fun p H2 e2 h2 => ⟨p, bs, rfl, h2, q H2 e2⟩
theorem ev_anyS {bs : List Bool} (ha : EvS K ta σ H (bs.map V.bl)) : Ev (tCB (rAny K) (tCons ta tNil)) σ H (.bl (bs.any id)) := fun H1 e Q q =>
  ha H1 e _ fun p H2 e2 h2 => ⟨p, bs, rfl, h2, q H2 e2⟩
theorem ev_abs {i : Int} (ha : Ev ta σ H (.int i)) : Ev (tCB rAbs (tCons ta tNil)) σ H (.int (if i < 0 then -i else i)) := fun H1 e Q q =>
  ha H1 e _ fun H2 e2 => ⟨i, rfl, q H2 e2⟩
theorem el_slS {tl' th : TO} {lo hi : Option Int} (h : EvS K te σ H xs) (h1 : EvO tl' σ H lo) (h2 : EvO th σ H hi) : EvL (tSl (rSlL K) te tl' th) σ H (cutV xs lo hi) := fun H1 e _ q =>
  h H1 e _ fun a H2 e2 hs => h1 H2 (e.trans e2) _ fun H3 e3 => h2 H3 ((e.trans e2).trans e3) _ fun H4 e4 =>
    ⟨a, xs, rfl, ex_l (e3.trans e4) hs, fun p hp => q p _ (fresh_back ((e2.trans e3).trans e4) hp) (((e2.trans e3).trans e4).trans (Ex.new hp)) upd_same⟩
theorem ev_inS {ns : List Int} {i : Int} (ha : Ev ta σ H (.int i)) (hb : EvS K tb σ H (ns.map V.int)) : Ev (tOp (rIn K false) ta tb) σ H (.bl (inV (.int i) (ns.map V.int))) := fun H1 e Q q =>
  ha H1 e _ fun H2 e2 => hb H2 (e.trans e2) _ fun p H3 e3 h3 => ⟨p, _, rfl, Or.inl h3, rfl, by rw [List.all_map]; exact List.all_eq_true.mpr fun _ _ => rfl, q H3 (e2.trans e3)⟩
theorem ev_notInS {ns : List Int} {i : Int} (ha : Ev ta σ H (.int i)) (hb : EvS K tb σ H (ns.map V.int)) : Ev (tOp (rIn K true) ta tb) σ H (.bl (!inV (.int i) (ns.map V.int))) := fun H1 e Q q =>
  ha H1 e _ fun H2 e2 => hb H2 (e.trans e2) _ fun p H3 e3 h3 => ⟨p, _, rfl, Or.inl h3, rfl, by rw [List.all_map]; exact List.all_eq_true.mpr fun _ _ => rfl, q H3 (e2.trans e3)⟩
theorem inV_ints (i : Int) (ns : List Int) : inV (.int i) (ns.map V.int) = decide (i ∈ ns) := by
  induction ns with
  | nil => simp [inV]
  | cons n r ih =>
    have e : inV (.int i) ((n :: r).map V.int) = (eqV (.int n) (.int i) || inV (.int i) (r.map V.int)) := rfl
    rw [e, ih]
    have e2 : eqV (.int n) (.int i) = decide (n = i) := by
      show ((n == i) : Bool) = decide (n = i)
      exact Bool.beq_eq_decide_eq n i
    rw [e2, Bool.eq_iff_iff]
    simp only [Bool.or_eq_true, decide_eq_true_eq, List.mem_cons]
    exact ⟨fun h => h.elim (fun h => .inl h.symm) .inr, fun h => h.elim (fun h => .inl h.symm) .inr⟩
theorem ev_isIn {ns : List Int} {i : Int} (ha : Ev ta σ H (.int i)) (hb : EvS K tb σ H (ns.map V.int)) : Ev (tOp (rIn K false) ta tb) σ H (.bl (decide (i ∈ ns))) := ev_is (ev_inS ha hb) (by rw [inV_ints])
theorem ev_notIn {ns : List Int} {i : Int} (ha : Ev ta σ H (.int i)) (hb : EvS K tb σ H (ns.map V.int)) : Ev (tOp (rIn K true) ta tb) σ H (.bl (!decide (i ∈ ns))) := ev_is (ev_notInS ha hb) (by rw [inV_ints])
/-- in a written pair of ints -/
theorem ev_inT2 {i j k : Int} (ha : Ev ta σ H (.int i)) (hb : EvST K tb σ H [.int j, .int k]) : Ev (tOp (rIn K false) ta tb) σ H (.bl (decide (i = j ∨ i = k))) := fun H1 e Q q =>
  ha H1 e _ fun H2 e2 => hb H2 (e.trans e2) _ fun p H3 e3 h3 => ⟨p, _, rfl, Or.inr h3, rfl, rfl, by
    have w := inV_ints i [j, k]
    have w2 : inV (.int i) [V.int j, V.int k] = decide (i = j ∨ i = k) := by
      rw [show [V.int j, V.int k] = [j, k].map V.int from rfl, w]
      simp
    show Q (.bl (inV (.int i) [V.int j, V.int k])) H3
    rw [w2]
    exact q H3 (e2.trans e3)⟩
theorem ev_ixS {i : Int} (ha : EvS K ta σ H xs) (hb : Ev tb σ H (.int i)) (hx : atI xs i = some v) : Ev (tOp (rIxL K) ta tb) σ H v := fun H1 e Q q =>
  ha H1 e _ fun p H2 e2 h2 => hb H2 (e.trans e2) _ fun H3 e3 => ⟨p, xs, i, v, rfl, rfl, ex_l e3 h2, hx, q H3 (e2.trans e3)⟩
theorem ev_ixT {i : Int} (ha : EvST K ta σ H xs) (hb : Ev tb σ H (.int i)) (hx : atI xs i = some v) : Ev (tOp (rIxT K) ta tb) σ H v := fun H1 e Q q =>
  ha H1 e _ fun p H2 e2 h2 => hb H2 (e.trans e2) _ fun H3 e3 => ⟨p, xs, i, v, rfl, rfl, ex_t e3 h2, hx, q H3 (e2.trans e3)⟩
/-- isinstance -/
theorem ev_isi {c : V} {ty cv : Value} {b : Bool} (ha : Ev ta σ H x) (hc : Ev tc σ H c) (hv : ClsV c cv) (ht : ∀ H1, Ex H H1 → TyX K H1 x ty) (hk : PySem.W.kitOne K ty cv = some b) : Ev (tCB (rIsi K) (tCons ta (tCons tc tNil))) σ H (.bl b) := fun H1 e Q q =>
  ha H1 e _ fun H2 e2 => hc H2 (e.trans e2) _ fun H3 e3 => ⟨x, c, ty, cv, b, rfl, hv, ht H3 ((e.trans e2).trans e3), hk, q H3 (e2.trans e3)⟩
theorem filter_yes {α : Type} (l : List α) : (l.filter fun _ => true) = l := List.filter_eq_self.mpr fun _ _ => rfl
/-! ### comprehensions -/
/-- what holds while a new list at Dl grows: all that H1 knew stands -/
def Grow (H1 : Hp) (Dl : Addr) (ys : List V) (H' : Hp) : Prop := H1 Dl = none ∧ Ex H1 H' ∧ H' Dl = some (.lst ys)
theorem grow_turn {H1 H' : Hp} {Dl : Addr} {ys : List V} {b0 : Bool} {w : V} {σ2 : L2.St} (p : Grow H1 Dl ys H') (hz : ys.length < 100000) (ht : EvT t σ2 H1 b0) (he : b0 = true → Ev te σ2 H1 w) :
    t σ2 H' fun b H3 => if b = true then te σ2 H3 fun y H4 => ∃ acc, H4 Dl = some (.lst acc) ∧ acc.length < sizeLine ∧ Grow H1 Dl (ys ++ if b0 = true then [w] else []) (upd H4 Dl (.lst (acc ++ [y]))) else Grow H1 Dl (ys ++ if b0 = true then [w] else []) H3 := by
  obtain ⟨p1, p2, p3⟩ := p
  refine ht H' p2 _ fun H3 e3 => ?_
  cases b0 with
  | true =>
    show te σ2 H3 _
    refine he rfl H3 (p2.trans e3) _ fun H4 e4 => ⟨ys, e4 Dl _ (e3 Dl _ p3), sz_lt hz, p1, Ex.mut ((p2.trans e3).trans e4) p1, ?_⟩
    exact upd_same
  | false =>
    show Grow H1 Dl (ys ++ []) H3
    rw [List.append_nil]
    exact ⟨p1, p2.trans e3, e3 Dl _ p3⟩
theorem take_snoc {α : Type} {l : List α} {i : Nat} {x : α} (h : l[i]? = some x) : l.take (i + 1) = l.take i ++ [x] := by
  rw [List.take_add_one, h]
  rfl
/-- [e for x in xs if t], xs a list -/
theorem el_lc {j : Nat} {vs : List Nat} (f : V → Bool) (g : V → V) (h : EvS K tl σ H xs) (hz : xs.length ≤ 40000) (hw : ∀ x, wipe ((wipe σ vs).set j (some x)) vs = wipe σ vs)
    (ht : ∀ (x : V) H1, Ex H H1 → x ∈ xs → EvT t ((wipe σ vs).set j (some x)) H1 (f x)) (he : ∀ (x : V) H1, Ex H H1 → x ∈ xs → f x = true → Ev te ((wipe σ vs).set j (some x)) H1 (g x)) :
    EvL (tLc (iList K tl) (gName j) t te vs) σ H ((xs.filter f).map g) := fun H0 e Q q => h H0 e _ fun a H1 e1 hx => ⟨a, rfl, ⟨xs, hx⟩, fun Dl hD =>
  lc_list (xs := xs) (fun i => Grow H1 Dl (((xs.take i).filter f).map g)) ⟨hD, Ex.new hD, upd_same⟩ (fun i H' _ p => ex_l p.2.1 hx) (fun i x H' hi p => ⟨hw x, by
      have hm : x ∈ xs := List.mem_of_getElem? hi
      have hlen : (((xs.take i).filter f).map g).length < 100000 := by
        rw [List.length_map]
        have h1 := List.length_filter_le f (xs.take i)
        have h2 : (xs.take i).length ≤ xs.length := by rw [List.length_take]; omega
        omega
      have w := grow_turn p hlen (ht x H1 (e.trans e1) hm) (he x H1 (e.trans e1) hm)
      have e2 : (((xs.take (i + 1)).filter f).map g) = ((xs.take i).filter f).map g ++ if f x = true then [g x] else [] := by
        rw [take_snoc hi, List.filter_append, List.map_append]
        congr 1
        cases hf : f x <;> simp [hf]
      rw [e2]
      exact w⟩)
    (fun H' p => by
      rw [List.take_length] at p
      exact q Dl H' (fresh_back e1 p.1) (e1.trans p.2.1) p.2.2)⟩
/-- the same over ints -/
theorem el_lcI {ns : List Int} {j : Nat} {vs : List Nat} (f : Int → Bool) (g : Int → V) (h : EvS K tl σ H (ns.map V.int)) (hz : ns.length ≤ 40000) (hw : ∀ x, wipe ((wipe σ vs).set j (some x)) vs = wipe σ vs)
    (ht : ∀ (n : Int) H1, Ex H H1 → n ∈ ns → EvT t ((wipe σ vs).set j (some (.int n))) H1 (f n)) (he : ∀ (n : Int) H1, Ex H H1 → n ∈ ns → f n = true → Ev te ((wipe σ vs).set j (some (.int n))) H1 (g n)) :
    EvL (tLc (iList K tl) (gName j) t te vs) σ H ((ns.filter f).map g) := by
  have key : ((ns.map V.int).filter (fun v => match v with | .int n => f n | _ => false)).map (fun v => match v with | .int n => g n | _ => v) = (ns.filter f).map g := by
    clear h hz ht he
    induction ns with
    | nil => rfl
    | cons n r ih =>
      rw [List.map_cons, List.filter_cons, List.filter_cons]
      cases hf : f n <;> simp [ih, hf]
  rw [← key]
  refine el_lc _ _ h (by rw [List.length_map]; exact hz) hw (fun x H1 e hx => ?_) (fun x H1 e hx hf => ?_)
  · obtain ⟨n, hn, rfl⟩ := List.mem_map.mp hx
    exact ht n H1 e hn
  · obtain ⟨n, hn, rfl⟩ := List.mem_map.mp hx
    exact he n H1 e hn hf
/-- over range(n) -/
theorem el_lcR {ta : TA} {j : Nat} {vs : List Nat} {n : Nat} (f : Nat → Bool) (g : Nat → V) (h : EvA ta σ H [.int (n : Int)]) (hn : n ≤ 40000) (hw : ∀ x, wipe ((wipe σ vs).set j (some x)) vs = wipe σ vs)
    (ht : ∀ (i : Nat) H1, Ex H H1 → i < n → EvT t ((wipe σ vs).set j (some (.int (i : Int)))) H1 (f i)) (he : ∀ (i : Nat) H1, Ex H H1 → i < n → f i = true → Ev te ((wipe σ vs).set j (some (.int (i : Int)))) H1 (g i)) :
    EvL (tLc (iRng1 ta) (gName j) t te vs) σ H (((List.range n).filter f).map g) := by
  have w := el_lcR1 (t := t) (te := te) (vs := vs) (j := j) f g h ⟨by omega, by omega⟩ hw (fun i H1 e hi => ht i H1 e (by omega)) (fun i H1 e hi hf => he i H1 e (by omega) hf)
  rw [Int.toNat_natCast] at w
  exact w
theorem et_yes : EvT tYes σ H true := fun H1 _ _ q => q H1 (Ex.refl H1)
/-- over a tuple -/
theorem el_lcT {j : Nat} {vs : List Nat} (f : V → Bool) (g : V → V) (h : EvST K tl σ H xs) (hz : xs.length ≤ 40000) (hw : ∀ x, wipe ((wipe σ vs).set j (some x)) vs = wipe σ vs)
    (ht : ∀ (x : V) H1, Ex H H1 → x ∈ xs → EvT t ((wipe σ vs).set j (some x)) H1 (f x)) (he : ∀ (x : V) H1, Ex H H1 → x ∈ xs → f x = true → Ev te ((wipe σ vs).set j (some x)) H1 (g x)) :
    EvL (tLc (iTup K tl) (gName j) t te vs) σ H ((xs.filter f).map g) := fun H0 e Q q => h H0 e _ fun a H1 e1 hx => ⟨a, rfl, ⟨xs, hx⟩, fun Dl hD =>
  lc_tup (xs := xs) (fun i => Grow H1 Dl (((xs.take i).filter f).map g)) ⟨hD, Ex.new hD, upd_same⟩ (fun i H' _ p => ex_t p.2.1 hx) (fun i x H' hi p => ⟨hw x, by
      have hm : x ∈ xs := List.mem_of_getElem? hi
      have hlen : (((xs.take i).filter f).map g).length < 100000 := by
        rw [List.length_map]
        have h1 := List.length_filter_le f (xs.take i)
        have h2 : (xs.take i).length ≤ xs.length := by rw [List.length_take]; omega
        omega
      have w := grow_turn p hlen (ht x H1 (e.trans e1) hm) (he x H1 (e.trans e1) hm)
      have e2 : (((xs.take (i + 1)).filter f).map g) = ((xs.take i).filter f).map g ++ if f x = true then [g x] else [] := by
        rw [take_snoc hi, List.filter_append, List.map_append]
        congr 1
        cases hf : f x <;> simp [hf]
      rw [e2]
      exact w⟩)
    (fun H' p => by
      rw [List.take_length] at p
      exact q Dl H' (fresh_back e1 p.1) (e1.trans p.2.1) p.2.2)⟩
/-- over zip(xs, ys) -/
theorem el_lcZ {i j : Nat} {vs : List Nat} (f : V × V → Bool) (g : V × V → V) (ha : EvS K ta σ H xs) (hb : EvS K tb σ H ys) (hz : xs.length ≤ 40000) (hw : ∀ x y, wipe (((wipe σ vs).set i (some x)).set j (some y)) vs = wipe σ vs)
    (ht : ∀ (p : V × V) H1, Ex H H1 → p ∈ xs.zip ys → EvT t (((wipe σ vs).set i (some p.1)).set j (some p.2)) H1 (f p)) (he : ∀ (p : V × V) H1, Ex H H1 → p ∈ xs.zip ys → f p = true → Ev te (((wipe σ vs).set i (some p.1)).set j (some p.2)) H1 (g p)) :
    EvL (tLc (iZip K (tCons ta (tCons tb tNil))) (gTup K 2 (gCons (gName i) (gCons (gName j) gNil))) t te vs) σ H (((xs.zip ys).filter f).map g) := fun H0 e Q q => ha H0 e _ fun a H1 e1 hx => hb H1 (e.trans e1) _ fun b H2 e2 hy => ⟨a, b, xs, ys, rfl, ex_l e2 hx, hy, fun Dl hD => by
  have hx2 := ex_l e2 hx
  have hl : (xs.zip ys).length = min xs.length ys.length := List.length_zip
  refine ⟨fun n m H' => m = (xs.zip ys).length - n ∧ n ≤ (xs.zip ys).length ∧ Grow H2 Dl ((((xs.zip ys).take n).filter f).map g) H', ⟨(xs.zip ys).length, by simp, Nat.zero_le _, hD, Ex.new hD, upd_same⟩, ?_⟩
  rintro n m H' ⟨rfl, hn, p⟩
  by_cases hlt : n < (xs.zip ys).length
  · have h1 : n < xs.length := by omega
    have h2 : n < ys.length := by omega
    have g1 : xs[n]? = some xs[n] := List.getElem?_eq_getElem h1
    have g2 : ys[n]? = some ys[n] := List.getElem?_eq_getElem h2
    have g3 : (xs.zip ys)[n]? = some (xs[n], ys[n]) := by
      rw [List.getElem?_zip_eq_some]
      exact ⟨g1, g2⟩
    refine .inr ⟨⟨xs, ys, _, _, ex_l p.2.1 hx2, ex_l p.2.1 hy, g1, g2⟩, fun H'' => Grow H2 Dl ((((xs.zip ys).take (n + 1)).filter f).map g) H'', fun H'' z => ⟨_, by omega, rfl, hlt, z⟩, fun v H'' hv => ?_⟩
    obtain ⟨T, x, y, rfl, nT, rfl, f1, f2⟩ := hv
    have ex : x = xs[n] := Option.some.inj ((f1 _ (ex_l p.2.1 hx2)).symm.trans g1)
    have ey : y = ys[n] := Option.some.inj ((f2 _ (ex_l p.2.1 hy)).symm.trans g2)
    subst ex ey
    refine ⟨T, _, rfl, st_of upd_same, rfl, _, _, rfl, _, _, rfl, rfl, hw _ _, ?_⟩
    have hm : (xs[n], ys[n]) ∈ xs.zip ys := List.mem_of_getElem? g3
    have hlen : ((((xs.zip ys).take n).filter f).map g).length < 100000 := by
      rw [List.length_map]
      have h1 := List.length_filter_le f ((xs.zip ys).take n)
      have h2 : ((xs.zip ys).take n).length ≤ (xs.zip ys).length := by rw [List.length_take]; omega
      omega
    have p' : Grow H2 Dl ((((xs.zip ys).take n).filter f).map g) (upd H' T (.tup [xs[n], ys[n]])) := ⟨p.1, p.2.1.trans (Ex.new nT), by rw [upd_ne (ne_of_none p.2.2 nT)]; exact p.2.2⟩
    have w := grow_turn p' hlen (ht (xs[n], ys[n]) H2 ((e.trans e1).trans e2) hm) (he (xs[n], ys[n]) H2 ((e.trans e1).trans e2) hm)
    have e3 : ((((xs.zip ys).take (n + 1)).filter f).map g) = (((xs.zip ys).take n).filter f).map g ++ if f (xs[n], ys[n]) = true then [g (xs[n], ys[n])] else [] := by
      rw [take_snoc g3, List.filter_append, List.map_append]
      congr 1
      cases hf : f (xs[n], ys[n]) <;> simp [hf]
    rw [e3]
    exact w
  · refine .inl ⟨⟨xs, ys, ex_l p.2.1 hx2, ex_l p.2.1 hy, by omega⟩, ?_⟩
    have e3 : n = (xs.zip ys).length := by omega
    rw [e3, List.take_length] at p
    exact q Dl H' (fresh_back (e1.trans e2) p.1) ((e1.trans e2).trans p.2.1) p.2.2⟩
/-! ### statements -/
variable {D : Ends} {tu tw tz : TS}
/-- a, b = e, e a tuple of two -/
theorem q_unp {i j : Nat} (h : EvST K te σ H [x, y]) (k : ∀ H1, Ex H H1 → tz D ((σ.set i (some x)).set j (some y)) H1) : tSeq (tAsg te (gTup K 2 (gCons (gName i) (gCons (gName j) gNil)))) tz D σ H :=
  h H (Ex.refl H) _ fun p H1 e hp => ⟨p, [x, y], rfl, hp, rfl, x, [y], rfl, y, [], rfl, rfl, k H1 e⟩
theorem s_unp {i j : Nat} (h : EvST K te σ H [x, y]) (k : ∀ H1, Ex H H1 → D.nx ((σ.set i (some x)).set j (some y)) H1) : tAsg te (gTup K 2 (gCons (gName i) (gCons (gName j) gNil))) D σ H :=
  h H (Ex.refl H) _ fun p H1 e hp => ⟨p, [x, y], rfl, hp, rfl, x, [y], rfl, y, [], rfl, rfl, k H1 e⟩
/-- a, b = e1, e2 -/
theorem q_par {i j : Nat} (h : Ev ta σ H x) (h' : Ev tb σ H y) (k : ∀ H1, Ex H H1 → tz D ((σ.set i (some x)).set j (some y)) H1) : tSeq (tPar i j (tCons ta (tCons tb tNil))) tz D σ H :=
  h H (Ex.refl H) _ fun H1 e => h' H1 e _ fun H2 e2 => ⟨x, y, rfl, k H2 (e.trans e2)⟩
/-- if t: xs.append(e) -/
theorem q_ifApp {b : Bool} {l : Addr} (ht : EvT t σ H b) (hl : H l = some (.lst xs)) (ha : Ev ta σ H (.ref l)) (h : b = true → Ev te σ H v) (hz : xs.length < 100000) (k : ∀ H1, (∀ c o, c ≠ l → H c = some o → H1 c = some o) → H1 l = some (.lst (xs ++ if b = true then [v] else [])) → tz D σ H1) :
    tSeq (tIfS t (tDrop (tBM K "list" rAppend ta (tCons te tNil))) tNext) tz D σ H := q_when ht
  (fun hb H1 e1 => s_app (e1 l _ hl) (ha.mono e1) ((h hb).mono e1) hz fun H2 e2 => k _ (fun c o hc ho => by rw [upd_ne hc]; exact e2 _ _ (e1 _ _ ho)) (by rw [upd_same, if_pos hb]))
  (fun hb H1 e1 => k H1 (fun c o _ ho => e1 _ _ ho) (by rw [hb, if_neg Bool.false_ne_true, List.append_nil]; exact e1 _ _ hl))
theorem el_if {b : Bool} (h : EvT t σ H b) (h1 : b = true → EvL ta σ H xs) (h2 : b = false → EvL tb σ H xs) : EvL (tIf t ta tb) σ H xs := fun H1 e Q q => h H1 e _ fun H2 e2 => by
  cases b with
  | true =>
    show ta σ H2 Q
    exact h1 rfl H2 (e.trans e2) Q fun p H3 hp e3 h3 => q p H3 (fresh_back e2 hp) (e2.trans e3) h3
  | false =>
    show tb σ H2 Q
    exact h2 rfl H2 (e.trans e2) Q fun p H3 hp e3 h3 => q p H3 (fresh_back e2 hp) (e2.trans e3) h3
theorem eu_if {b : Bool} (h : EvT t σ H b) (h1 : b = true → EvU ta σ H xs) (h2 : b = false → EvU tb σ H xs) : EvU (tIf t ta tb) σ H xs := fun H1 e Q q => h H1 e _ fun H2 e2 => by
  cases b with
  | true =>
    show ta σ H2 Q
    exact h1 rfl H2 (e.trans e2) Q fun p H3 hp e3 h3 => q p H3 (fresh_back e2 hp) (e2.trans e3) h3
  | false =>
    show tb σ H2 Q
    exact h2 rfl H2 (e.trans e2) Q fun p H3 hp e3 h3 => q p H3 (fresh_back e2 hp) (e2.trans e3) h3
theorem q_asgP {R : Hp → V → Hp → Prop} {i : Nat} (h : EvP te σ H R) (k : ∀ v H1, Ex H H1 → R H v H1 → tz D (σ.set i (some v)) H1) : tSeq (tAsg te (gName i)) tz D σ H := h H (Ex.refl H) _ fun v H1 e z => k v H1 e z
theorem s_asgP {R : Hp → V → Hp → Prop} {i : Nat} (h : EvP te σ H R) (k : ∀ v H1, Ex H H1 → R H v H1 → D.nx (σ.set i (some v)) H1) : tAsg te (gName i) D σ H := h H (Ex.refl H) _ fun v H1 e z => k v H1 e z
/-- a, b = e1, e2, the second a new list -/
theorem q_parL {i j : Nat} (h : Ev ta σ H x) (h' : EvL tb σ H xs) (k : ∀ p H1, H p = none → Ex H H1 → H1 p = some (.lst xs) → tz D ((σ.set i (some x)).set j (some (.ref p))) H1) : tSeq (tPar i j (tCons ta (tCons tb tNil))) tz D σ H :=
  h H (Ex.refl H) _ fun H1 e => h' H1 e _ fun p H2 hp e2 h2 => ⟨x, _, rfl, k p H2 (fresh_back e hp) (e.trans e2) h2⟩
/-- .. the first a new list -/
theorem q_parL1 {i j : Nat} (h : EvL ta σ H xs) (h' : Ev tb σ H y) (k : ∀ p H1, H p = none → Ex H H1 → H1 p = some (.lst xs) → tz D ((σ.set i (some (.ref p))).set j (some y)) H1) : tSeq (tPar i j (tCons ta (tCons tb tNil))) tz D σ H :=
  h H (Ex.refl H) _ fun p H1 hp e h1 => h' H1 e _ fun H2 e2 => ⟨_, y, rfl, k p H2 hp (e.trans e2) (e2 _ _ h1)⟩
end
/-! ### further statements -/
section
variable {K : PySem.W.Frag} {σ : L2.St} {H H' : Hp} {ta tb tc te tl : TE} {t u : TT} {x y z v : V} {xs ys : List V} {D : Ends} {tu tw tz : TS}
/-- a, b = e1, e2 by a tuple, the first a new list -/
theorem q_tupLV {i j : Nat} (h : EvL ta σ H xs) (h' : Ev tb σ H y) (k : ∀ p H1, H p = none → Ex H H1 → H1 p = some (.lst xs) → tz D ((σ.set i (some (.ref p))).set j (some y)) H1) :
    tSeq (tAsg (tTup (tCons ta (tCons tb tNil))) (gTup K 2 (gCons (gName i) (gCons (gName j) gNil)))) tz D σ H :=
  h H (Ex.refl H) _ fun p H1 hp e h1 => h' H1 e _ fun H2 e2 => ⟨sz_of (by simp), fun q hq => ⟨q, _, rfl, st_of upd_same, rfl, _, _, rfl, _, _, rfl, rfl, k p _ hp ((e.trans e2).trans (Ex.new hq)) (Ex.new hq _ _ (e2 _ _ h1))⟩⟩
/-- xs.extend(a new list) -/
theorem s_extL {l : Addr} (hl : H l = some (.lst xs)) (ha : Ev ta σ H (.ref l)) (h : EvL te σ H ys) (hz : xs.length + ys.length ≤ 100000) (k : ∀ H1, Ex H H1 → D.nx σ (upd H1 l (.lst (xs ++ ys)))) :
    tDrop (tBM K "list" rExtend ta (tCons te tNil)) D σ H := ha H (Ex.refl H) _ fun H1 e1 =>
  ⟨Or.inl ⟨rfl, xs, sq_of (e1 l _ hl)⟩, h H1 e1 _ fun p H2 hp e2 h2 => ⟨l, p, xs, ys, rfl, rfl, e2 l _ (e1 l _ hl), h2, sz_of hz, k H2 (e1.trans e2)⟩⟩
theorem q_extL {l : Addr} (hl : H l = some (.lst xs)) (ha : Ev ta σ H (.ref l)) (h : EvL te σ H ys) (hz : xs.length + ys.length ≤ 100000) (k : ∀ H1, Ex H H1 → tz D σ (upd H1 l (.lst (xs ++ ys)))) :
    tSeq (tDrop (tBM K "list" rExtend ta (tCons te tNil))) tz D σ H := s_extL (D := { D with nx := tz D }) hl ha h hz k
theorem rv_isN : RV rIsN x .non H (.bl (decide (x = .non))) := fun H1 _ _ q => ⟨rfl, q H1 (Ex.refl H1)⟩
theorem rv_notN : RV rNotN x .non H (.bl (!decide (x = .non))) := fun H1 _ _ q => ⟨rfl, q H1 (Ex.refl H1)⟩
theorem rv_isB {a b : Bool} : RV rIsB (.bl a) (.bl b) H (.bl (decide (a = b))) := fun H1 _ _ q => ⟨a, b, rfl, rfl, q H1 (Ex.refl H1)⟩
theorem rv_notB {a b : Bool} : RV rNotB (.bl a) (.bl b) H (.bl (!decide (a = b))) := fun H1 _ _ q => ⟨a, b, rfl, rfl, q H1 (Ex.refl H1)⟩
end
end Sd

/-! The program and the laws' helpers as plain functions over ints, naturals and lists: no Python here. -/
namespace Sd
/-- a grid -/
def GOk (h w : Nat) : Prop := 1 ≤ h ∧ h ≤ 6 ∧ 1 ≤ w ∧ w ≤ 6
/-- some cells of it: rising, one at least -/
def Rising (cs : List Int) : Prop := cs.Pairwise (· < ·)
def InGrid (h w : Nat) (cs : List Int) : Prop := ∀ x ∈ cs, 0 ≤ x ∧ x < (h : Int) * w
def COk (h w : Nat) (cs : List Int) : Prop := cs ≠ [] ∧ InGrid h w cs ∧ Rising cs
def besideA (w : Nat) (x : Int) : List Int := if (w : Int) ≤ x then [x - w] else []
def besideB (w : Nat) (x : Int) : List Int := if 0 < x % (w : Int) then [x - 1] else []
def besideC (w : Nat) (x : Int) : List Int := if x % (w : Int) < (w : Int) - 1 then [x + 1] else []
def besideD (h w : Nat) (x : Int) : List Int := if x < (w : Int) * ((h : Int) - 1) then [x + w] else []
/-- the cells beside a cell, rising -/
def beside (h w : Nat) (x : Int) : List Int := besideA w x ++ besideB w x ++ besideC w x ++ besideD h w x
/-- how many sides of a cell are on the rim -/
def near (h w : Nat) (cs : List Int) (x : Int) : Nat := ((beside h w x).filter fun o => decide (o ∈ cs)).length
def sidesOf (h w : Nat) (cs : List Int) (x : Int) : Int := if x ∈ cs then 4 - (near h w cs x : Int) else (near h w cs x : Int)
def numbersOf (h w : Nat) (cs : List Int) : List (List Int) := (List.range h).map fun (r : Nat) => (List.range w).map fun (a : Nat) => sidesOf h w cs ((r : Int) * w + (a : Int))
theorem beside_len (h w : Nat) (x : Int) : (beside h w x).length ≤ 4 := by
  unfold beside besideA besideB besideC besideD
  simp only [List.length_append]
  split <;> split <;> split <;> split <;> simp
theorem hw_le {h w : Nat} (g : GOk h w) : (h : Int) * w ≤ 36 ∧ 1 ≤ (h : Int) * w := by
  obtain ⟨h1, h2, h3, h4⟩ := g
  have e1 : h = 1 ∨ h = 2 ∨ h = 3 ∨ h = 4 ∨ h = 5 ∨ h = 6 := by omega
  rcases e1 with rfl | rfl | rfl | rfl | rfl | rfl <;> omega
/-! ### the laws' helpers -/
def lNumber (c a s : Int) : Int :=
  if 10 ^ 18 ≤ c then c
  else
    let m := ((c + 977 * a) * 48271 + s) % 2147483647
    let n := m * (m + 31 * a + 7) * (m + c + 5)
    n * (n + 48271) / 1009
def lGridGo (most : Nat) : Nat → Nat → Nat → Nat × Nat
  | 0, h, w => (h, w)
  | k + 1, h, w => if most < h * w then (if w < h then lGridGo most k (h - 1) w else lGridGo most k h (w - 1)) else (h, w)
def lGrid (n : Int) (most : Nat) : Nat × Nat := lGridGo most 12 (1 + n % 6).toNat (1 + n / 6 % 6).toNat
def lSpots (r a : Int) : List (Int × Int) := [(r - 1, a), (r, a - 1), (r, a + 1), (r + 1, a)]
def lBeside (h w : Nat) (x : Int) : List Int :=
  ((lSpots (x / (w : Int)) (x % (w : Int))).filter fun (p : Int × Int) => (decide (0 ≤ p.1) && decide (p.1 < (h : Int))) && (decide (0 ≤ p.2) && decide (p.2 < (w : Int)))).map fun (p : Int × Int) => p.1 * (w : Int) + p.2
def lSides1 (h w : Nat) (cs : List Int) (x : Int) : Int :=
  ((lBeside h w x).length : Int) - (((lBeside h w x).filter fun o => decide (o ∈ cs) == decide (x ∈ cs)).length : Int) + (if x ∈ cs then 4 - ((lBeside h w x).length : Int) else 0)
def lNumbers (h w : Nat) (cs : List Int) : List (List Int) := (List.range h).map fun (r : Nat) => (List.range w).map fun (a : Nat) => lSides1 h w cs ((r : Int) * w + (a : Int))
/-- what the script draws -/
def lDrawn (ns : List Int) : List Int := if ns = [] then [5] else ns.take 63
def lPick (n k : Int) : Int := if k = 0 then n % 2 else if k = 1 then n % 3 else if k = 2 then 1 else n % 5
def lKeep (ns : List Int) (by_ : Int) (a : Nat) : Bool :=
  let ds := lDrawn ns
  let s := ds.sum + by_
  let n := lNumber (ds.getD (((a : Int) + by_) % (ds.length : Int)).toNat 0) ((a : Int) + by_) s / 3
  decide (0 < lPick n (s % 4))
def lCells0 (ns : List Int) (by_ : Int) (m : Nat) : List Int := ((List.range m).filter (lKeep ns by_)).map fun (a : Nat) => (a : Int)
def lCells (ns : List Int) (by_ : Int) (h w : Nat) : List Int :=
  let s := (lDrawn ns).sum + by_
  let f := lCells0 ns by_ (h * w)
  let f := if s % 4 = 2 then (f.filter fun c => decide (s / 4 % (h : Int) ≤ c / (w : Int))).filter fun c => decide (c % (w : Int) ≤ s / 8 % (w : Int)) else f
  if f = [] then [s % ((h : Int) * w)] else f
end Sd

/-! More mirrors: spread, is_inner, first_inner, is_ring. -/
namespace Sd
def spreadGo (h w : Nat) (cs : List Int) : Nat → List Int → Nat → List Int
  | 0, f, _ => f
  | k + 1, f, a =>
    match f[a]? with
    | none => f
    | some x => spreadGo h w cs k (f ++ (beside h w x).filter fun o => decide (o ∈ cs) && !decide (o ∈ f)) (a + 1)
/-- the cells come by from x within cs -/
def spread (h w : Nat) (x : Int) (cs : List Int) : List Int := spreadGo h w cs (cs.length + 2) [x] 0
def onEdge (h w : Nat) (x : Int) : Bool := decide (x < (w : Int)) || (decide ((w : Int) * ((h : Int) - 1) ≤ x) || decide (x % (w : Int) = 0 ∨ x % (w : Int) = (w : Int) - 1))
def restOf (h w : Nat) (cs : List Int) : List Int := ((List.range (h * w)).filter fun (i : Nat) => !decide ((i : Int) ∈ cs)).map fun (i : Nat) => (i : Int)
def isInner (h w : Nat) (cs : List Int) (x : Int) : Bool := (spread h w x (restOf h w cs)).all fun o => !onEdge h w o
def firstInner (h w : Nat) (cs : List Int) : Option Nat := (List.range (h * w)).find? fun (i : Nat) => !decide ((i : Int) ∈ cs) && isInner h w cs (i : Int)
def isRing (h w : Nat) (cs : List Int) : Bool := if (spread h w (cs.headD 0) cs).length < cs.length then false else (firstInner h w cs).isNone
/-! facts -/
theorem nodup_sub : ∀ {l m : List Int}, l.Nodup → (∀ o ∈ l, o ∈ m) → l.length ≤ m.length
  | [], m, _, _ => Nat.zero_le _
  | a :: r, m, hn, hs => by
    obtain ⟨h1, h2⟩ := List.nodup_cons.mp hn
    have ha := hs a List.mem_cons_self
    have := nodup_sub (m := m.erase a) h2 fun o ho => by
      have ne : o ≠ a := fun e => h1 (e ▸ ho)
      exact (List.mem_erase_of_ne ne).mpr (hs o (List.mem_cons_of_mem _ ho))
    rw [List.length_erase_of_mem ha] at this
    have : 0 < m.length := List.length_pos_of_mem ha
    rw [List.length_cons]
    omega
theorem beside_rising (h : Nat) {w : Nat} (hw : 0 < w) (x : Int) : (beside h w x).Pairwise (· < ·) := by
  unfold beside besideA besideB besideC besideD
  have m1 := Int.emod_lt_of_pos x (show (0 : Int) < (w : Int) by omega)
  have m0 := Int.emod_nonneg x (show (w : Int) ≠ 0 by omega)
  generalize x % (w : Int) = m at *
  split <;> split <;> split <;> split <;> simp <;> omega
theorem beside_nodup (h : Nat) {w : Nat} (hw : 0 < w) (x : Int) : (beside h w x).Nodup := (beside_rising h hw x).imp fun a => by omega
theorem spread_step {h w : Nat} (hw : 0 < w) {cs f : List Int} {x0 x : Int} (hn : f.Nodup) (hs : ∀ o ∈ f, o ∈ x0 :: cs) :
    (f ++ (beside h w x).filter fun o => decide (o ∈ cs) && !decide (o ∈ f)).Nodup ∧ ∀ o ∈ f ++ (beside h w x).filter fun o => decide (o ∈ cs) && !decide (o ∈ f), o ∈ x0 :: cs := by
  refine ⟨List.nodup_append.mpr ⟨hn, (beside_nodup h hw x).filter _, fun a ha b hb e => ?_⟩, fun o ho => ?_⟩
  · have := (List.mem_filter.mp hb).2
    simp only [Bool.and_eq_true, decide_eq_true_eq, Bool.not_eq_true', decide_eq_false_iff_not] at this
    exact this.2 (e ▸ ha)
  · rcases List.mem_append.mp ho with ho | ho
    · exact hs o ho
    · have := (List.mem_filter.mp ho).2
      simp only [Bool.and_eq_true, decide_eq_true_eq] at this
      exact List.mem_cons_of_mem _ this.1
theorem spreadGo_ok {h w : Nat} (hw : 0 < w) {cs : List Int} {x0 : Int} : ∀ (k : Nat) (f : List Int) (a : Nat), f.Nodup → (∀ o ∈ f, o ∈ x0 :: cs) → (spreadGo h w cs k f a).Nodup ∧ ∀ o ∈ spreadGo h w cs k f a, o ∈ x0 :: cs
  | 0, f, a, hn, hs => ⟨hn, hs⟩
  | k + 1, f, a, hn, hs => by
    unfold spreadGo
    cases f[a]? with
    | none => exact ⟨hn, hs⟩
    | some x =>
      have st := spread_step (h := h) hw (x := x) hn hs
      exact spreadGo_ok hw k _ _ st.1 st.2
theorem spread_ok (h : Nat) {w : Nat} (hw : 0 < w) (x : Int) (cs : List Int) : (spread h w x cs).Nodup ∧ ∀ o ∈ spread h w x cs, o ∈ x :: cs := spreadGo_ok hw _ _ _ (by simp) (by simp)
theorem spread_len (h : Nat) {w : Nat} (hw : 0 < w) (x : Int) (cs : List Int) : (spread h w x cs).length ≤ cs.length + 1 := nodup_sub (m := x :: cs) (spread_ok h hw x cs).1 (spread_ok h hw x cs).2
theorem restOf_len (h w : Nat) (cs : List Int) : (restOf h w cs).length ≤ h * w := by
  unfold restOf
  rw [List.length_map]
  have := List.length_filter_le (fun i : Nat => !decide ((i : Int) ∈ cs)) (List.range (h * w))
  rw [List.length_range] at this
  exact this
end Sd

/-! More mirrors: all_rings, fits, fitting_of. -/
namespace Sd
/-- the cells that a number names by its bits -/
def cellsOf (m k : Nat) : List Int := ((List.range m).filter fun (c : Nat) => decide (k / 2 ^ c % 2 = 1)).map fun (c : Nat) => (c : Int)
def ringsTo (h w i : Nat) : List (List Int) := ((List.range i).map fun j => cellsOf (h * w) (j + 1)).filter (isRing h w)
def allRings (h w : Nat) : List (List Int) := (ringsTo h w (2 ^ (h * w) - 1)).mergeSort fun p q => decide (p ≤ q)
def rowFits (row line : List Int) : Bool := !((row.zip line).any fun q => decide (0 ≤ q.1) && !decide (q.1 = q.2))
def fits (nss : List (List Int)) (cs : List Int) : Bool := (nss.zip (numbersOf nss.length (nss.headD []).length cs)).all fun p => rowFits p.1 p.2
def fittingOf (nss : List (List Int)) : List (List Int) := (allRings nss.length (nss.headD []).length).filter (fits nss)
theorem cellsOf_len (m k : Nat) : (cellsOf m k).length ≤ m := by
  unfold cellsOf
  rw [List.length_map]
  have := List.length_filter_le (fun (c : Nat) => decide (k / 2 ^ c % 2 = 1)) (List.range m)
  rw [List.length_range] at this
  exact this
theorem cellsOf_ne {m k : Nat} (h0 : 0 < k) (h1 : k < 2 ^ m) : cellsOf m k ≠ [] := by
  intro e
  unfold cellsOf at e
  have e1 := List.map_eq_nil_iff.mp e
  have all : ∀ c < m, ¬ k / 2 ^ c % 2 = 1 := fun c hc => by
    have := List.filter_eq_nil_iff.mp e1 c (List.mem_range.mpr hc)
    simpa using this
  have key : ∀ n, n ≤ m → k % 2 ^ n = 0 := by
    intro n
    induction n with
    | zero => intro _; simp [Nat.mod_one]
    | succ n ih =>
      intro hn
      have i1 := ih (by omega)
      have a := all n (by omega)
      rw [Nat.pow_succ, Nat.mod_mul, i1]
      have : k / 2 ^ n % 2 = 0 := by omega
      rw [this]
      simp
  have := key m (Nat.le_refl m)
  rw [Nat.mod_eq_of_lt h1] at this
  omega
theorem cellsOf_in {m k : Nat} : ∀ x ∈ cellsOf m k, 0 ≤ x ∧ x < (m : Int) := fun x hx => by
  unfold cellsOf at hx
  obtain ⟨c, hc, rfl⟩ := List.mem_map.mp hx
  have := List.mem_range.mp (List.mem_filter.mp hc).1
  omega
theorem cellsOf_rising (m k : Nat) : Rising (cellsOf m k) := by
  unfold Rising cellsOf
  rw [List.pairwise_map]
  exact ((List.pairwise_lt_range).filter _).imp fun h => by omega
theorem ringsTo_succ (h w i : Nat) : ringsTo h w (i + 1) = ringsTo h w i ++ if isRing h w (cellsOf (h * w) (i + 1)) = true then [cellsOf (h * w) (i + 1)] else [] := by
  unfold ringsTo
  rw [List.range_succ, List.map_append, List.filter_append]
  congr 1
  simp only [List.map_cons, List.map_nil, List.filter_cons, List.filter_nil]
theorem ringsTo_len (h w i : Nat) : (ringsTo h w i).length ≤ i := by
  unfold ringsTo
  have := List.length_filter_le (isRing h w) ((List.range i).map fun j => cellsOf (h * w) (j + 1))
  rw [List.length_map, List.length_range] at this
  exact this
theorem pow_le9 {m : Nat} (h : m ≤ 9) : 2 ^ m ≤ 512 := Nat.le_trans (Nat.pow_le_pow_right (by decide) h) (by decide)
theorem allRings_mem {h w : Nat} {cs : List Int} (hc : cs ∈ allRings h w) : ∃ k, 0 < k ∧ k < 2 ^ (h * w) ∧ cs = cellsOf (h * w) k ∧ isRing h w cs = true := by
  unfold allRings at hc
  have hc := List.mem_mergeSort.mp hc
  unfold ringsTo at hc
  obtain ⟨h1, h2⟩ := List.mem_filter.mp hc
  obtain ⟨j, hj, rfl⟩ := List.mem_map.mp h1
  have := List.mem_range.mp hj
  exact ⟨j + 1, by omega, by omega, rfl, h2⟩
theorem allRings_len (h w : Nat) (hm : h * w ≤ 9) : (allRings h w).length ≤ 512 := by
  unfold allRings
  rw [List.length_mergeSort]
  have := ringsTo_len h w (2 ^ (h * w) - 1)
  have := pow_le9 hm
  omega
theorem allRings_ok {h w : Nat} {cs : List Int} (hc : cs ∈ allRings h w) : COk h w cs := by
  obtain ⟨k, h0, h1, rfl, _⟩ := allRings_mem hc
  refine ⟨cellsOf_ne h0 h1, fun x hx => ?_, cellsOf_rising _ _⟩
  have := cellsOf_in x hx
  rw [Int.natCast_mul] at this
  exact this
end Sd

/-! More mirrors: side_ahead, walk. -/
namespace Sd
def inCell (h w : Nat) (cs : List Int) (r c : Int) : Bool := (decide (0 ≤ r) && decide (r < (h : Int))) && ((decide (0 ≤ c) && decide (c < (w : Int))) && decide (r * (w : Int) + c ∈ cs))
def pairOf (r c : Int) : Nat → (Int × Int) × (Int × Int)
  | 0 => ((r - 1, c), (r, c))
  | 1 => ((r, c), (r, c - 1))
  | 2 => ((r, c - 1), (r - 1, c - 1))
  | _ => ((r - 1, c - 1), (r - 1, c))
def sideAhead (h w : Nat) (cs : List Int) (r c : Int) (t : Nat) : Bool := inCell h w cs (pairOf r c t).1.1 (pairOf r c t).1.2 != inCell h w cs (pairOf r c t).2.1 (pairOf r c t).2.2
def stepOf : Nat → Int × Int
  | 0 => (0, 1)
  | 1 => (1, 0)
  | 2 => (0, -1)
  | _ => (-1, 0)
def ways (h w : Nat) (cs : List Int) (r c : Int) (t : Nat) : List Nat := (List.range 4).filter fun y => !decide (y = (t + 2) % 4) && sideAhead h w cs r c y
def walkGo (h w : Nat) (cs : List Int) (fr fc : Int) : Nat → List (Int × Int) → Nat → Int → Int → Option (List (Int × Int))
  | 0, _, _, _, _ => none
  | k + 1, f, t, r, c =>
    if r = fr ∧ c = fc then some f
    else match ways h w cs r c t with
      | [] => none
      | y :: _ => walkGo h w cs fr fc k (f ++ [(r, c)]) y (r + (stepOf y).1) (c + (stepOf y).2)
def walkOf (h w : Nat) (cs : List Int) : Option (List (Int × Int)) :=
  walkGo h w cs (cs.headD 0 / (w : Int)) (cs.headD 0 % (w : Int)) 200 [(cs.headD 0 / (w : Int), cs.headD 0 % (w : Int))] 0 (cs.headD 0 / (w : Int)) (cs.headD 0 % (w : Int) + 1)
theorem ways_lt {h w : Nat} {cs : List Int} {r c : Int} {t y : Nat} (hy : y ∈ ways h w cs r c t) : y < 4 := List.mem_range.mp (List.mem_filter.mp hy).1
end Sd

/-! what goes on in an except suite: isinstance of the caught error, any of bools -/
namespace Sd
open PySem PySem.Spec PyProof.Rows L2
/-- isinstance(e, c), e the exception that the suite holds, of whatever own class -/
def rIsX (K : PySem.W.Frag) (cls : Value) (d : Option Addr) (a : Addr) : List V → Hp → VK → Prop := fun xs H Q => ∃ D, cls = .ref D ∧ d = none ∧ ExcC K D ∧ rIsE K D a xs H Q
theorem call_isX {X : Cx} {a : Addr} {cls : Value} {d : Option Addr} {oe : Obj} {pn : List (Addr × Obj)} (hz : Zc cls d oe) (hf : ∃ vs, oe.data = .fields vs) : CallR (X.suite a ((a, oe) :: pn)) (.builtin "isinstance") (rIsX X.K cls d a) := by
  intro pins s σ H xs us Q I r h
  obtain ⟨D, rfl, rfl, C, h⟩ := h
  exact call_isE C hz hf pins s σ H xs us Q I r h
section
variable {prog : Program} {w : World} {A : Around} {E : Value → Shared → Prop} {s : Shared}
theorem pyNext_list_end_hot {it l x1 : Addr} {i : Nat} {items : Array Value} {Q : Option Value → Shared → Prop} (hot : HotX.HotAt A x1 s.heap) (hne : x1 ≠ it)
    (hit : s.heap.IsListIter it l i) (hl : s.heap.IsList l items) (hx : items[i]? = none)
    (hQ : ∀ h', (∀ b o, b ≠ it → s.heap.get? b = some o → h'.get? b = some o) → Q none { s with heap := h' }) : wpAny (model prog w) A (pyNext (.ref it)) Q E s := by
  obtain ⟨o, ho, hc, hd⟩ := id hit
  obtain ⟨ol, hol, _, nl, hdl⟩ := hl
  obtain ⟨hh, o1, vs1, h1, d1, c1⟩ := hot
  unfold pyNext
  refine wpAny_bind (wpAny_attempt (wpAny_callSpecial?_slot (name := Str.ofString "__next__") hit.typeIs slot_listiter_next
    (wpAny_call_entry slot_listiter_next hit.typeIs entry_listiter_next ?_ (args_listiter_next _))))
  show wpAny _ _ (field (.ref it) 0 >>= _) _ _ s
  refine wpAny_bind (wpAny_field ho hd (x := .ref l) rfl ?_)
  show wpAny _ _ (if (Value.ref l == Value.none) = true then _ else _) _ _ s
  rw [if_neg (show ¬ ((Value.ref l == Value.none) = true) from Bool.false_ne_true)]
  show wpAny _ _ (field (.ref it) 1 >>= _) _ _ s
  refine wpAny_bind (wpAny_field ho hd (x := .int i 0) rfl ?_)
  show wpAny _ _ (seqItems? (.ref l) >>= _) _ _ s
  refine wpAny_bind (wpAny_seqItems hol hdl ?_)
  simp only [Int.toNat_natCast, hx]
  refine wpAny_bind (wpAny_rule (wpAny_bind (wpAny_setField ho hd (by simp) ?_)))
  show wpAny _ _ (newExc (.type "StopIteration") [] >>= _) _ _ _
  refine wpAny_bind ?_
  simp only [newExc, newTuple]
  refine wpAny_bind (wpAny_newObj_type ?_ (by size_fits))
  refine wpAny_bind (m := firstArgMember _ _) (wpAny_of_eq (a := Value.none) (by first | rfl | (simp only [firstArgMember]; rfl)) ?_)
  refine wpAny_newObj_type ?_ (by size_fits)
  refine HotX.raiseNew_hot ⟨hh, o1, vs1, Heap.get?_push_of_some _ (Heap.get?_push_of_some _ ((Heap.get?_update_other _ _ hne.symm).trans h1)), d1, c1⟩ (Nat.ne_of_lt (Heap.lt_size (Heap.get?_push_of_some _ ((Heap.get?_update_other _ _ hne.symm).trans h1)))) (Heap.get?_push_size _ rfl) rfl (by first | (simp; done) | (simp; omega) | (simp only [Array.size_append]; simp; omega)) ?_
  refine wpAny_bind (wpAny_isInstance (T := "StopIteration") (b := true) ⟨_, Heap.get?_update_self _ (Heap.get?_push_size _ rfl) rfl, rfl⟩ isSubtype_stop ?_)
  refine wpAny_pure (hQ _ fun b o hb e => ?_)
  rw [Heap.get?_update_other _ _ (Nat.ne_of_gt (Heap.lt_size (Heap.get?_push_of_some _ ((Heap.get?_update_other _ _ hb.symm).trans e))))]
  exact Heap.get?_push_of_some _ (Heap.get?_push_of_some _ ((Heap.get?_update_other _ _ hb.symm).trans e))
end
theorem walks_list_hot {prog : Program} {w : World} {A : Around} {x1 : Addr} (I ax : Addr) (hne : ax ≠ I) (hx : x1 ≠ I) (items : Array Value) :
    Walks prog w A I [I, ax, x1] [I] items.size (fun i v => items[i]? = some v) (fun i h => h.IsListIter I ax i ∧ h.IsList ax items ∧ HotX.HotAt A x1 h) where
  sub := fun b hb => by simp at hb; simp [hb]
  frame := fun _ _ _ st hk => ⟨st.1.at fun o e => hk I (by simp) o e, st.2.1.at fun o e => hk ax (by simp) o e, by
    obtain ⟨hh, o1, vs1, h1, d1, c1⟩ := st.2.2
    exact ⟨hh, o1, vs1, hk x1 (by simp) _ h1, d1, c1⟩⟩
  item := fun i s Q E hi st hQ => by
    refine wpAny_pyNext_list_item st.1 st.2.1 (x := items[i]) (by simp [hi]) fun h' hit' hs' => ?_
    refine hQ _ h' s.toks (by simp [hi]) ⟨hit', st.2.1.extBut hs'.extBut hne, ?_⟩ fun b o hb e => hs'.extBut b o (fun h => hb (by simp [h])) e
    obtain ⟨hh, o1, vs1, h1, d1, c1⟩ := st.2.2
    exact ⟨hh, o1, vs1, hs'.extBut x1 _ hx h1, d1, c1⟩
  done := fun s Q E st hQ => pyNext_list_end_hot st.2.2 hx st.1 st.2.1 (by simp) fun h' he' => hQ h' s.toks fun b o hb e => he' b o (fun h => hb (by simp [h])) e
  self := fun _ _ _ _ st hQ => wpAny_pyIter_listiter st.1 hQ
/-- any(xs) of bools, while an exception is handled -/
theorem cr_anyH {X : Cx} (hc : L2H.HotC X) : CallR X (.builtin "any") (rAny X.K) := by
  intro pins s σ H vs us Q I r h
  obtain ⟨a, bs, rfl, hs, q⟩ := h
  obtain ⟨its, rv, hl, _⟩ := I.list hs
  rw [Vals.ref1 r]
  have hb := rv.bls
  obtain ⟨x1, hot⟩ := hc.at I
  refine call_any_walk (iter_any hl.isList fun s₂ e2 st hne => ?_)
  subst e2
  have hx : x1 ≠ s.heap.objs.size := by
    obtain ⟨_, _, _, e, _⟩ := hot
    exact Nat.ne_of_lt (Heap.lt_size e)
  refine ⟨_, _, _, _, _, _, _, rfl, walks_list_hot (A := X.A.in1) (x1 := x1) _ a hne hx its.toArray, ⟨st.1, st.2, ?_⟩, truth_bools hb, fun h' tk hk => ?_⟩
  · obtain ⟨hh, o1, vs1, h1, d1, c1⟩ := hot
    exact ⟨hh, o1, vs1, Heap.get?_push_of_some _ h1, d1, c1⟩
  refine ⟨.bl _, H, I.kept fun b o eo => hk b o (fun hmem => ?_) (Heap.get?_push_of_some _ eo), ?_, q⟩
  · rcases List.mem_cons.mp hmem with e1 | hmem
    · exact absurd (e1 ▸ Heap.lt_size eo) (Nat.lt_irrefl _)
    · cases hmem
  · show Value.bool _ = Value.bool _
    rw [← L2.any_range, hb, List.size_toArray, List.length_map]
theorem hotC_suite {X : Cx} {a : Addr} {oe : Obj} {pn : List (Addr × Obj)} {cls : Value} {d : Option Addr} (hz : L2N.Zn cls d oe) (hf : ∃ vs, oe.data = .fields vs) : L2H.HotC (X.suite a ((a, oe) :: pn)) := by
  obtain ⟨vs, hv⟩ := hf
  exact ⟨(a, oe), ⟨rfl, vs, hv, hz.2.2 vs hv⟩, List.mem_cons_self⟩
/-- try: tb / except c as i: ts; nothing else is let out -/
def tTry (K : PySem.W.Frag) (c : Value) (i : Nat) (tb : WX → TS) (ts : Addr → Value → Option Addr → TS) : TS := fun D σ H => tb (wAs K c i ts (fun _ _ _ _ => False) D) D σ H
theorem takes0N {X : Cx} : L2N.Takes X (fun _ _ _ _ => False) := fun _ _ x => by
  obtain ⟨_, _, _, _, _, _, _, _, _, _, _, _, _, _, _, _, z⟩ := x
  exact z.elim
theorem ps_tryN {X : Cx} {x n : Str} {c : Value} {i : Nat} {body suite : List Stmt} {b₀ : Stmt} {np pos pos' : Pos} {tb : WX → TS} {ts : Addr → Value → Option Addr → TS} (hs : X.stack = X.env :: X.outer) (hf : X.env.frame = some X.env.locals) (hN : X.N.Nodup) (hi : X.N[i]? = some n) (hln : X.env.kindOf n = some .local) (hg : Gl X x) (hdb : (x == ("__debug__" : Str)) = false) (hm : X.mg x = some c)
    (hb : ∀ (W : WX) (pn : List (Addr × Obj)) (xe : Value → Shared → Prop), L2N.Takes (X.tr pn xe) W → PassesOwn (model X.prog X.w) X.A X.env xe → PSs (X.tr pn xe) body (tb W))
    (hsu : ∀ (a : Addr) (oe : Obj) (cls : Value) (d : Option Addr) (pn : List (Addr × Obj)), L2N.Zn cls d oe → (∃ vs, oe.data = .fields vs) → PSs (X.suite a ((a, oe) :: pn)) (b₀ :: suite) (ts a cls d)) :
    PS X (.Try body [.ExceptHandler (some (.Name x np)) (some n) (b₀ :: suite) pos'] [] [] pos) (tTry X.K c i tb ts) :=
  L2N.ps_try_as hs hf hN hi hln ⟨hg, hdb, .inl hm⟩ takes0N hb hsu
theorem passN {X : Cx} : Passes (L2N.CX X.prog X.w) X E0 := fun _ _ _ _ _ _ _ h => by
  obtain ⟨_, _, _, _, _, _, _, _, _, _, _, _, z⟩ := h
  exact z.elim
section
variable {P : Program} {w : World} {K : PySem.W.Frag} {mg : Str → Option Value} {base : Heap}
/-- as Fun.ok, for a def that may raise; the raised error's context is None -/
theorem Fun.okN {x qual : Str} {st : Stmt} {f : Addr} {fd : FuncData} {N ps : List Str} {k : Nat} {sp : Sp} (F : Fun K x qual st f fd) (S : FnScope N ps (defScope st)) (len : ∀ vs H Q E, sp vs H Q E → vs.length = ps.length)
    (hbody : ∀ (cdv : Value) (A : Around) (outer : List Env) (s : Shared) (H : Hp) (vs : List V) (Q : VK) (E : XK), Room k (A.deeper (envOfC qual (defScope st) s.heap.objs.size f cdv)) → sp vs H Q E →
      ∃ t, PSs (cxOf (L2N.CX P w) P w K mg base N qual (defScope st) f cdv A outer s H E) (defBody st) t ∧ t { nx := fun _ H' => Q .non H', rt := Q } (start N vs) H) : FnOk P w K mg base (L2N.CX P w) (k + 1) f fd ps sp := by
  obtain ⟨oc, od, kV, doc, pm, an, cdv, ct, osl, rfl, lk, hcd⟩ := F.ex
  exact fn_of lk hcd S len fun A outer s H vs Q E hr hsp => hbody cdv A outer s H vs Q E hr hsp
end
end Sd

/-! defs called within an except suite with the caught error; a comprehension there; defs held in a slot -/
namespace L2H
open PySem PySem.Spec PyProof.Rows L2 HotX
theorem RoomH.units {k : Nat} {A : Around} (r : RoomH k A) : A.units + 64 < cLine := by have := r.un; omega
end L2H
namespace Sd
open PySem PySem.Spec PyProof.Rows L2 HotX L2H
/-- isinstance(e, c), e the handled exception, pinned -/
theorem call_isP {X : Cx} {a : Addr} {cls : Value} {d : Option Addr} {oe : Obj} (hp : (a, oe) ∈ X.pn) (hz : Zc cls d oe) (hf : ∃ vs, oe.data = .fields vs) : CallR X (.builtin "isinstance") (rIsX X.K cls d a) := by
  intro pins s σ H xs us Q I r h
  obtain ⟨D, rfl, rfl, C, c, cv, b, rfl, hcv, e, q⟩ := h
  cases r with
  | cons rx rr =>
    cases rr with
    | cons rt rr =>
      cases rr
      cases rx
      have ec := hcv _ rt
      subst ec
      obtain ⟨hget, _⟩ := I.pin (a, oe) (List.mem_append.mpr (.inl hp))
      obtain ⟨vs, hv⟩ := hf
      have J : PySem.W.InstAt s.heap a oe D none := by
        obtain ⟨oc, od, oda, osl⟩ := oe
        obtain ⟨h1, h2⟩ := hz
        dsimp only at h1 h2 hv
        subst h1 h2 hv
        exact ⟨hget, rfl, rfl, trivial⟩
      exact PySem.W.kia_one (PySem.W.handS_kitx_exc C.hg C.hk C.hs C.hd C.ha C.hn C.ht C.hm) I.kIn J e (fun z => nomatch z) fun tk => ⟨.bl b, H, I.kept (t' := tk) fun _ _ z => z, rfl, q⟩
/-! ### a def that may be called with the handled exception -/
structure FnHP (P : Program) (w : World) (K : PySem.W.Frag) (mg : Str → Option Value) (base : Heap) (CX : CXT) (k : Nat) (f : Addr) (fd : FuncData) (ps : List Str) (sp : Addr → Value → Option Addr → Sp) : Prop where
  len : ∀ a c d vs H Q E, sp a c d vs H Q E → vs.length = ps.length
  run : ∀ (A : Around) (outer : List Env) (s : Shared) (H : Hp) (args : Args) (us : List Value) (vs : List V) (Q : VK) (E : XK) (p : Addr × Obj) (cls : Value) (d : Option Addr), RoomH k A → Hot1 A p → L2N.Zn cls d p.2 → PinOk outer H s p → Env0 P w K mg base A outer s H → BindsTo s fd args (ps.zip us) → Vals vs us → sp p.1 cls d vs H Q E →
    codeAny (model P w) A (.call (.ref f) args) (CR CX outer P w H s Q E) s
theorem fn_ofHP {CX : CXT} {P : Program} {w : World} {K : PySem.W.Frag} {mg : Str → Option Value} {base : Heap} {k : Nat} {f : Addr} {name qual : Str} {params : Arguments} {body : List Stmt} {scope : Scope} {dV kV doc pm cdv ct oc : Value} {an od : Option Addr}
    {osl : Array (Option Value)} {N ps : List Str} {sp : Addr → Value → Option Addr → Sp} (lk : K.lookup f = some ⟨oc, od, .func (PySem.W.fnOf name qual params body scope dV kV doc pm an cdv ct), osl⟩) (hcd : PySem.W.codeIn K cdv qual = true) (S : FnScope N ps scope)
    (len : ∀ a c d vs H Q E, sp a c d vs H Q E → vs.length = ps.length)
    (hbody : ∀ (A : Around) (outer : List Env) (s : Shared) (H : Hp) (vs : List V) (Q : VK) (E : XK) (p : Addr × Obj) (cls : Value) (d : Option Addr), Hot1 A p → L2N.Zn cls d p.2 → RoomH k (A.deeper (envOfC qual scope s.heap.objs.size f cdv)) → sp p.1 cls d vs H Q E →
      ∃ t, PSs (cxH CX P w K mg base N qual scope f cdv A outer s H E p) body t ∧ t { nx := fun _ H' => Q .non H', rt := Q } (L2.start N vs) H) :
    FnHP P w K mg base CX (k + 1) f (PySem.W.fnOf name qual params body scope dV kV doc pm an cdv ct) ps sp := by
  refine ⟨len, fun A outer s H args us vs Q E p cls d hr hot hz hpin e0 hb r hsp => ?_⟩
  have hl := len _ _ _ _ _ _ _ hsp
  have KX : K.In s.heap := e0.mod.kin.keeps fun b o e => (e0.bs b o e).1
  have lim : s.heap.NoLimit := e0.mod.nolimit.keeps fun b o e => (e0.bs b o e).1
  have hkind : ∀ y ∈ ps.zip us, scope.names.lookup y.1 = some .local ∨ (scope.names.lookup y.1 = some .cell ∧ ((cellsFrom (s.heap.objs.size + 1) scope.names []).lookup y.1).isSome = true) := fun ⟨n, v⟩ hy => by
    rcases S.par n (List.of_mem_zip hy).1 with q | q
    · exact .inl q
    · exact .inr ⟨q, PySem.W.cellsFrom_some _ _ _ (.inl q)⟩
  refine codeAny_call_function hr.depth (KX _ _ lk) rfl S.co S.gen rfl (PySem.W.codeRec_of KX hcd) (hb _ _ _ _ ?_)
  refine wpAny_newFunctionEnv_cells S.kind hkind fun env he s1 x => ?_
  subst he
  refine ⟨lim.keeps x.toInCall.keep, codeAny_func ?_⟩
  obtain ⟨t, ht, hq⟩ := hbody A outer s H vs Q E p cls d hot hz (hr.deeper _) hsp
  have I : Inv (cxH CX P w K mg base N qual scope f cdv A outer s H E p) [] (L2.start N vs) H s1 := inv_startH S hpin e0 hl r x
  refine wpAny_mono (ht.run [] s1 (L2.start N vs) H _ I hq) (fun fl s' hs => ?_) fun e s' hs => hs
  have fin : ∀ {σ' : L2.St} {H' : Hp} {v : V} {u : Value}, Inv (cxH CX P w K mg base N qual scope f cdv A outer s H E p) [] σ' H' s' → RelV v u → Q v H' → CE outer P w H s Q u s' :=
    fun {σ' H' v u} J rv q => ⟨v, H', J.os, J.bare, J.base, J.hok, rv, q⟩
  cases fl with
  | ret u =>
    obtain ⟨v, σ', H', J, rv, q⟩ := hs
    exact fin J rv q
  | next =>
    obtain ⟨σ', H', J, q⟩ := hs
    exact fin (v := V.non) (u := Value.none) J rfl q
  | brk =>
    obtain ⟨_, _, _, q⟩ := hs
    exact False.elim q
  | cont =>
    obtain ⟨_, _, _, q⟩ := hs
    exact False.elim q
theorem Fun.okHP {P : Program} {w : World} {K : PySem.W.Frag} {mg : Str → Option Value} {base : Heap} {x qual : Str} {st : Stmt} {f : Addr} {fd : FuncData} {N ps : List Str} {k : Nat} {sp : Addr → Value → Option Addr → Sp} (F : Fun K x qual st f fd) (S : FnScope N ps (defScope st)) (len : ∀ a c d vs H Q E, sp a c d vs H Q E → vs.length = ps.length)
    (hbody : ∀ (cdv : Value) (A : Around) (outer : List Env) (s : Shared) (H : Hp) (vs : List V) (Q : VK) (E : XK) (p : Addr × Obj) (cls : Value) (d : Option Addr), Hot1 A p → L2N.Zn cls d p.2 → RoomH k (A.deeper (envOfC qual (defScope st) s.heap.objs.size f cdv)) → sp p.1 cls d vs H Q E →
      ∃ t, PSs (cxH CX0 P w K mg base N qual (defScope st) f cdv A outer s H E p) (defBody st) t ∧ t { nx := fun _ H' => Q .non H', rt := Q } (L2.start N vs) H) : FnHP P w K mg base CX0 (k + 1) f fd ps sp := by
  obtain ⟨oc, od, kV, doc, pm, an, cdv, ct, osl, rfl, lk, hcd⟩ := F.ex
  exact fn_ofHP lk hcd S len fun A outer s H vs Q E p cls d hot hz hr hsp => hbody cdv A outer s H vs Q E p cls d hot hz hr hsp
section
variable {X : Cx} {CX : CXT} {k : Nat} {f : Addr} {fd : FuncData} {ps : List Str} {spH : Addr → Value → Option Addr → Sp} {x : Str} {q pos : Pos} {e : Expr} {es : List Expr} {t : TA}
theorem pe_callHP {a : Addr} {oe : Obj} {cls : Value} {d : Option Addr} (F : FnHP X.prog X.w X.K X.mg X.base CX0 k f fd ps spH) (hr : RoomH k X.A) (hot : Hot1 X.A (a, oe)) (hz : L2N.Zn cls d oe) (hp : (a, oe) ∈ X.pn) (hg : Gl X x) (hm : X.mg x = some (.ref f)) (hk : PySem.W.keepIn X.K (.ref f) = true) (hb : Binds X.K fd ps [])
    (ha : PA X (e :: es) t) (hdb : (x == ("__debug__" : Str)) = false := by decide) (he : starEach (e :: es) X.env = (false, eval e X.env) :: starEach es X.env := by rfl) (hpl : (backTo pos (starEach es X.env)).any (·.1) = false := by rfl) :
    PE X (.Call (.Name x q) (e :: es) [] pos) (tCall (spH a cls d) [] E0 t) := by
  refine ⟨fun pins s σ H Q I h => ?_⟩
  refine wpAny_Call_Name_kw (ld_glob I hg hm ?_ hdb)
  refine PySem.W.callWith_K (h₀ := X.base) I.ok.mod.kin hk (thn (ha.run pos pins s σ H _ I h) fun us s1 ⟨vs, H1, I1, r, q⟩ => ⟨I1.kIn, ?_⟩) he hpl
  have q' : spH a cls d vs H1 Q E0 := by
    have z : spH a cls d (vs ++ []) H1 Q E0 := q
    rw [List.append_nil] at z
    exact z
  have hl : us.length = ps.length := by rw [← r.length]; exact F.len _ _ _ _ _ _ _ q'
  have b := hb s1 us I1.kIn (by rw [List.append_nil]; exact hl)
  rw [List.append_nil] at b
  have P1 := I1.pin (a, oe) (List.mem_append_left _ hp)
  have hpin : PinOk X.stack H1 s1 (a, oe) := ⟨P1.1, P1.2.1, fun hm => (List.mem_cons.mp (I1.stkSub a hm)).elim P1.2.2.1 P1.2.2.2.1, P1.2.2.2.2⟩
  refine wpAny_call (codeAny_mono (F.run X.A X.stack s1 H1 ⟨us, []⟩ us vs Q E0 (a, oe) cls d hr hot hz hpin I1.env0 b r q') fun r s' hq => ?_)
  cases r with
  | error e => exact False.elim hq
  | ok fl =>
    cases fl with
    | ret u => exact I1.after hq
    | next => exact False.elim hq
    | brk => exact False.elim hq
    | cont => exact False.elim hq
/-! ### defs held in a slot -/
/-- the slot's def, of those that R knows -/
def tCallR (i : Nat) (R : Addr → Sp → Prop) (E : L2.St → XK) (t : TA) : TE := fun σ H Q => ∃ f sp, σ[i]? = some (some (.ref f)) ∧ R f sp ∧ t σ H fun vs H1 => sp vs H1 Q (E σ)
structure HeldR (P : Program) (w : World) (K : PySem.W.Frag) (mg : Str → Option Value) (base : Heap) (CX : CXT) (k : Nat) (f : Addr) (sp : Sp) : Prop where
  ex : ∃ (fd : FuncData) (ps : List Str), FnOk P w K mg base CX k f fd ps sp ∧ PySem.W.keepIn K (.ref f) = true ∧ Binds K fd ps []
theorem pe_callR {i : Nat} {R : Addr → Sp → Prop} {E : L2.St → XK} (A : ∀ f sp, R f sp → HeldR X.prog X.w X.K X.mg X.base CX k f sp) (hr : Room k X.A) (hN : X.N[i]? = some x) (hv : Vis X.env.scope x) (hx : ∀ σ, PassesAt CX X σ (E σ)) (ha : PA X (e :: es) t)
    (hdb : (x == ("__debug__" : Str)) = false := by decide) (hcd : (x == ("__classdict__" : Str)) = false := by decide)
    (he : starEach (e :: es) X.env = (false, eval e X.env) :: starEach es X.env := by rfl) (hpl : (backTo pos (starEach es X.env)).any (·.1) = false := by rfl) : PE X (.Call (.Name x q) (e :: es) [] pos) (tCallR i R E t) := by
  refine ⟨fun pins s σ H Q I h => ?_⟩
  obtain ⟨f, sp, hs, hS, ht⟩ := h
  obtain ⟨fd, ps, F, hk, hb⟩ := (A f sp hS).ex
  refine wpAny_Call_Name_kw (thn ((pe_var (pos := q) hN hv hdb hcd).run pins s σ H (fun v H1 => v = .ref f ∧ H1 = H) I ⟨.ref f, hs, rfl, rfl⟩) fun u s1 ⟨v, H1, I1, r1, q1⟩ => ?_)
  obtain ⟨rfl, rfl⟩ := q1
  cases r1
  refine PySem.W.callWith_K (h₀ := X.base) I.ok.mod.kin hk (thn (ha.run pos pins s1 σ _ _ I1 ht) fun us s2 ⟨vs, H2, I2, r, q⟩ => ⟨I2.kIn, ?_⟩) he hpl
  exact run_fnS F hr hb (hx σ) I2 r q
end
/-! ### [.. for .. in range(..)] while an exception is handled (as the kit's own for a calm context) -/
theorem lc_coreH {X : Cx} {pins : List (Addr × Obj)} {s : Shared} {σ : L2.St} {H : Hp} {Q : VK} {elt tg iter : Expr} {ifs : List Expr} {scope : Scope} {own : List (Str × Nat)} {pos pos' : Pos} {wi : TI} {g : TG} {tt : TT} {te : TE} {use : Option (Value → Sem Unit)} {Qf : Value → Shared → Prop}
    (hc : HotC X) (hN : X.N.Nodup) (I : Inv X pins σ H s) (hi : PIH X tg iter wi) (ok : BlkOk X.N X.env.scope scope own)
    (hg : ∀ (s : Shared) (H : Hp) (C : Addr) (cl : List (Str × Addr)) (fp : List Addr), PG (X.blk s H scope (compEnvC scope cl C X.env) fp) tg g) (ht : ∀ (s : Shared) (H : Hp) (C : Addr) (cl : List (Str × Addr)) (fp : List Addr), PTs (X.blk s H scope (compEnvC scope cl C X.env) fp) ifs tt)
    (he : ∀ (s : Shared) (H : Hp) (C : Addr) (cl : List (Str × Addr)) (fp : List Addr), PE (X.blk s H scope (compEnvC scope cl C X.env) fp) elt te) (hs : ∀ x, foldedSetIterable iter X.env x = pure x)
    (h : tLc wi g tt te (own.map (·.2)) σ H Q)
    (hRR : ∀ D C s' m H', Inv X pins σ H' s' → Q (.ref D) H' → s'.heap.Ns C m → FpOk X pins H' C → compPost (model X.prog X.w) X.A X.xe use Qf (.ref D) C (.ok .next) s') :
    wpAny (model X.prog X.w) X.A (comprehension (.ListComp elt [⟨tg, iter, ifs, 0⟩] scope pos) scope X.env pos' (newList []) false (eval iter X.env) use) Qf X.xe s := by
  have hfree : ∀ y ∈ scope.names, y.2 = .free → ∃ c, X.env.cells.lookup y.1 = some c := fun y hy e => by
    rcases ok.free y hy e with k | k
    · exact I.ok.has _ (.inl k)
    · exact I.ok.has _ (.inr k)
  refine wpAny_comprehension_free (use := use) rfl hs (closure_ok hfree) ok.kind (fun y hy e => by rw [ok.uniq y hy, e])
    (thn (hi.run pins s σ H _ I h) fun xv s1 hx => thn hx fun itv s2 h2 => ?_)
  obtain ⟨it, fp, tn, J, H2, e, I2, T, st2, f2, q⟩ := h2
  subst e
  refine wpAny_newObj_type (newEnv_comp ?_) (by show 0 ≤ sizeLine; decide)
  generalize hD : s2.heap.objs.size = D
  have hDn : H2 D = none := I2.hok.fresh (Nat.le_of_eq hD)
  obtain ⟨W, ⟨m0, w0⟩, turn⟩ := q D hDn
  -- the new list
  generalize hs3 : ({ s2 with heap := s2.heap.push { cls := .type "list", data := .seq ([] : List Value).toArray } } : Shared) = s3
  have I3 : Inv X pins σ (upd H2 D (.lst [])) s3 := by
    rw [← hs3]
    refine I2.laid (t' := s2.toks) (fun b o e => Heap.get?_push_of_some _ e) (Nat.le_of_eq hD) ⟨Nat.zero_le _, [], 0, .nil, ?_⟩
    rw [← hD]
    exact Heap.get?_push_size _ rfl
  have h3 : s3.heap = s2.heap.push { cls := .type "list", data := .seq ([] : List Value).toArray } := by rw [← hs3]
  have sz : ∀ b ∈ fp, b < s2.heap.objs.size := fun b hb => by
    obtain ⟨o, e, _⟩ := T.obj _ _ st2 b hb
    exact Heap.lt_size e
  have f3 : ∀ b ∈ fp, FpOk X pins (upd H2 D (.lst [])) b ∧ b < s3.heap.objs.size := fun b hb => by
    have hlt := sz b hb
    refine ⟨⟨?_, (f2 b hb).2⟩, by rw [h3, Heap.size_push]; exact Nat.lt_succ_of_lt hlt⟩
    rw [upd_ne (by rw [← hD]; exact Nat.ne_of_lt hlt)]
    exact (f2 b hb).1
  have st3 : tn 0 s3.heap := T.keep _ _ _ st2 fun b _ o e => by rw [h3]; exact Heap.get?_push_of_some _ e
  have I4 := block_start I3 ok hN f3
  obtain ⟨pp, hot, hpp⟩ := hc
  have P3 := I3.pin pp (List.mem_append_left _ hpp)
  have npp : ∀ b ∈ fp, pp.1 ≠ b := fun b hb => (f3 b hb).1.2.2.2.2.2 pp (List.mem_append_left _ hpp)
  have pg := hg s3 (upd H2 D (.lst [])) s3.heap.objs.size (cellsFrom (s3.heap.objs.size + 1) scope.names (cloFrom X.env.cells scope.names [])) fp
  have pt := ht s3 (upd H2 D (.lst [])) s3.heap.objs.size (cellsFrom (s3.heap.objs.size + 1) scope.names (cloFrom X.env.cells scope.names [])) fp
  have pe := he s3 (upd H2 D (.lst [])) s3.heap.objs.size (cellsFrom (s3.heap.objs.size + 1) scope.names (cloFrom X.env.cells scope.names [])) fp
  show codeAny _ _ (.compStart (.ListComp elt [⟨tg, iter, ifs, 0⟩] scope pos) 0 (.ref it) (.ref D) (compEnvC scope (cellsFrom (s3.heap.objs.size + 1) scope.names (cloFrom X.env.cells scope.names [])) s3.heap.objs.size X.env)) (compPost (model X.prog X.w) X.A X.xe use Qf (.ref D) s3.heap.objs.size) { s3 with heap := pushCells (s3.heap.push { cls := .type "dict", data := .dict #[] }) scope.names }
  have nfp : ∀ b ∈ fp, (upd H2 D (.lst [])) b = none := fun b hb => (f3 b hb).1.1
  generalize hce : compEnvC scope (cellsFrom (s3.heap.objs.size + 1) scope.names (cloFrom X.env.cells scope.names [])) s3.heap.objs.size X.env = ce at I4 pg pt pe ⊢
  have cL : ce.locals = s3.heap.objs.size := by subst hce; rfl
  generalize hH3 : upd H2 D (.lst []) = H3 at I3 I4 pg pt pe w0 nfp f3 P3
  generalize hs4 : ({ s3 with heap := pushCells (s3.heap.push { cls := .type "dict", data := .dict #[] }) scope.names } : Shared) = s4 at I4 ⊢
  have st4 : tn 0 s4.heap := T.keep _ _ _ st3 fun b _ o e => by rw [← hs4]; exact pushCells_keeps _ _ _ _ (Heap.get?_push_of_some _ e)
  have I4 : Inv (X.blk s3 H3 scope ce fp) [pp] (wipe σ (own.map (·.2))) H3 s4 := I4.pins_of fun q hq => by
    have eq : q = pp := by simpa using hq
    rw [eq]
    refine ⟨by rw [← hs4]; exact pushCells_keeps _ _ _ _ (Heap.get?_push_of_some _ P3.1), P3.2.1, ?_, fun hm => (List.mem_cons.mp (I3.stkSub pp.1 hm)).elim P3.2.2.1 P3.2.2.2.1, P3.2.2.2.2⟩
    show pp.1 ≠ ce.locals
    rw [cL]
    exact Nat.ne_of_lt (Heap.lt_size P3.1)
  have stat : ∀ {σ' : L2.St} {H' : Hp} {s' : Shared}, Inv (X.blk s3 H3 scope ce fp) [pp] σ' H' s' → (∀ b ∈ fp, H' b = none) → ∀ b ∈ fp, FpOk (X.blk s3 H3 scope ce fp) [pp] H' b := fun {σ' H' s'} I' hn b hb =>
    ⟨hn b hb, (I'.ok.exf b hb).1, I'.ok.exfs b hb, .inl hb, fun x c e => (I'.ok.exf b hb).2 x c e, fun p hp => by
      have eq : p = pp := by simpa using (show p ∈ ([] : List (Addr × Obj)) ++ [pp] from hp)
      rw [eq]
      exact npp b hb⟩
  have toH : ∀ {σ' : L2.St} {H' : Hp} {s' : Shared}, Inv (X.blk s3 H3 scope ce fp) [pp] σ' H' s' → Inv { X.blk s3 H3 scope ce fp with pn := [pp] } [] σ' H' s' := fun {σ' H' s'} J =>
    ⟨⟨J.ok.mod, J.ok.kind, J.ok.glob, J.ok.blt, J.ok.above, J.ok.inj, J.ok.has, J.ok.cab, J.ok.hd, J.ok.frames, J.ok.stk, J.ok.exf, J.ok.bs, J.ok.bsz, J.ok.noex, J.ok.exfs, J.ok.funs, J.ok.frf⟩, J.os, J.bare, J.base, J.loc, J.cell, J.free, J.freeC, J.pin, J.hok, J.len⟩
  have ofH : ∀ {σ' : L2.St} {H' : Hp} {s' : Shared}, Inv { X.blk s3 H3 scope ce fp with pn := [pp] } [] σ' H' s' → Inv (X.blk s3 H3 scope ce fp) [pp] σ' H' s' := fun {σ' H' s'} J =>
    ⟨⟨J.ok.mod, J.ok.kind, J.ok.glob, J.ok.blt, J.ok.above, J.ok.inj, J.ok.has, J.ok.cab, J.ok.hd, J.ok.frames, J.ok.stk, J.ok.exf, J.ok.bs, J.ok.bsz, J.ok.noex, J.ok.exfs, J.ok.funs, J.ok.frf⟩, J.os, J.bare, J.base, J.loc, J.cell, J.free, J.freeC, J.pin, J.hok, J.len⟩
  have hcB : HotC { X.blk s3 H3 scope ce fp with pn := [pp] } := ⟨pp, hot, List.mem_cons_self⟩
  have loop : codeAny (model X.prog X.w) X.A (.compLoop (.ListComp elt [⟨tg, iter, ifs, 0⟩] scope pos) 0 (.ref it) (.ref D) ce) (compPost (model X.prog X.w) X.A X.xe use Qf (.ref D) s3.heap.objs.size) s4 := by
    refine compLoop_any (fun n s' => ∃ i H', Inv (X.blk s3 H3 scope ce fp) [pp] (wipe σ (own.map (·.2))) H' s' ∧ tn i s'.heap ∧ (∀ b ∈ fp, H' b = none) ∧ W i n H') ?_ m0 ⟨0, H3, I4, st4, nfp, w0⟩
    rintro n s5 ⟨i, H5, I5, st5, n5, w5⟩
    rcases turn i n H5 w5 with ⟨stop, qq⟩ | ⟨go, Nx, hNx, step⟩
    · have td := T.done { X.blk s3 H3 scope ce fp with pn := [pp] } rfl rfl rfl hcB i [] s5 _ H5 (fun _ _ => False) (toH I5) (stat I5 n5) st5 stop
      refine thnF td fun r s6 ⟨hr, I6⟩ => ?_
      subst hr
      have I6 := ofH I6
      -- back in the def's context
      have I7 : Inv X pins σ H5 s6 := I3.call' (ch := fp) I6.os I6.base I6.hok I6.bare fun b hb => ⟨(f3 b hb).1.2.2.2.1, (f3 b hb).1.2.1, (f3 b hb).1.2.2.2.2.1, (f3 b hb).1.2.2.2.2.2⟩
      have nC : H5 s3.heap.objs.size = none := by
        have z : H5 ce.locals = none := I6.free
        rw [cL] at z
        exact z
      obtain ⟨m, hn, _⟩ := I6.loc
      have hn : s6.heap.Ns ce.locals m := hn
      rw [cL] at hn
      exact hRR D s3.heap.objs.size s6 m H5 I7 qq hn (I3.fpOk (Nat.le_refl _) nC)
    · have ti := T.item { X.blk s3 H3 scope ce fp with pn := [pp] } rfl rfl rfl hcB i [] s5 _ H5 (fun _ _ => False) (toH I5) (stat I5 n5) st5 go
      refine thnF ti fun r s6 ⟨u, hr, h6⟩ => ?_
      subst hr
      refine thnF h6 fun _ s7 ⟨x, H7, I7, r7, y7, st7, n7⟩ => ?_
      have I7 := ofH I7
      have I7' := I7.pinned (stat I7 n7) (T.obj _ _ st7)
      refine thnF (pg.run _ s7 _ H7 x u _ I7' r7 (step x H7 y7)) fun _ s8 ⟨σ8, H8, I8, hw8, q8⟩ => ?_
      refine thnF (pt.run _ s8 σ8 H8 _ I8 q8) fun b s9 ⟨H9, I9, q9⟩ => ?_
      -- the turn's end
      have fin : ∀ {s' : Shared} {H' : Hp}, Inv (X.blk s3 H3 scope ce fp) ([pp] ++ pinsAt fp s7.heap) σ8 H' s' → Nx H' → ∃ m, m < n ∧ ∃ i H', Inv (X.blk s3 H3 scope ce fp) [pp] (wipe σ (own.map (·.2))) H' s' ∧ tn i s'.heap ∧ (∀ b ∈ fp, H' b = none) ∧ W i m H' := fun {s' H'} I' nx => by
        obtain ⟨m', hm, w'⟩ := hNx H' nx
        have pin' : ∀ b ∈ fp, ∀ o, s7.heap.get? b = some o → s'.heap.get? b = some o ∧ H' b = none := fun b hb o e =>
          let z := I'.pin (b, o) (List.mem_append_right _ (List.mem_append_right _ (mem_pinsAt hb e)))
          ⟨z.1, z.2.1⟩
        have hl : (wipe σ (own.map (·.2))).length = σ8.length := by rw [← hw8, wipe_length]
        refine ⟨m', hm, i + 1, H', (I'.unpinned (pins := [pp])).weak hl (fun j v e => ?_), T.keep _ _ _ st7 fun b hb o e => (pin' b hb o e).1, fun b hb => ?_, w'⟩
        · rw [← hw8] at e
          exact (wipe_some e).1
        · obtain ⟨o, e, _⟩ := T.obj _ _ st7 b hb
          exact (pin' b hb o e).2
      cases b with
      | false =>
        simp only [Bool.false_eq_true, if_false] at q9 ⊢
        exact fin I9 q9
      | true =>
        simp only [if_true] at q9 ⊢
        refine thnF (pe.run _ s9 σ8 H9 _ I9 q9) fun z s10 ⟨yv, H10, I10, r10, acc, hD10, hz10, nx⟩ => ?_
        exact app_ok (X := X.blk s3 H3 scope ce fp) I10 hD10 hz10 r10 fun s11 I11 => fin I11 nx
  exact codeAny_compStart_list loop (T.self X.A 0 _ _ _ st4 loop)
theorem pe_lcH {X : Cx} {elt tg iter : Expr} {ifs : List Expr} {scope : Scope} {own : List (Str × Nat)} {pos : Pos} {wi : TI} {g : TG} {tt : TT} {te : TE} (hc : HotC X) (hN : X.N.Nodup) (hi : PIH X tg iter wi) (ok : BlkOk X.N X.env.scope scope own)
    (hg : ∀ (s : Shared) (H : Hp) (C : Addr) (cl : List (Str × Addr)) (fp : List Addr), PG (X.blk s H scope (compEnvC scope cl C X.env) fp) tg g) (ht : ∀ (s : Shared) (H : Hp) (C : Addr) (cl : List (Str × Addr)) (fp : List Addr), PTs (X.blk s H scope (compEnvC scope cl C X.env) fp) ifs tt)
    (he : ∀ (s : Shared) (H : Hp) (C : Addr) (cl : List (Str × Addr)) (fp : List Addr), PE (X.blk s H scope (compEnvC scope cl C X.env) fp) elt te) (hs : ∀ x, foldedSetIterable iter X.env x = pure x := by intro _; rfl) :
    PE X (.ListComp elt [⟨tg, iter, ifs, 0⟩] scope pos) (tLc wi g tt te (own.map (·.2))) := by
  refine ⟨fun pins s σ H Q I h => ?_⟩
  rw [eval_ListComp]
  refine lc_coreH hc hN I hi ok hg ht he hs h fun D C s' m H' I' q hn f => ⟨m, hn, fun h'' sb => ?_⟩
  obtain ⟨f0, f1, f2, f3, f4, f5⟩ := f
  exact ⟨.ref D, H', I'.turned (t' := s'.toks) (fun b o hb e => (sb.2 b hb).trans e) f0 f1 f3 f4 f5, rfl, q⟩
theorem pass0At {X : Cx} {σ : L2.St} : PassesAt CX0 X σ E0 := fun _ _ _ _ _ _ z => z.elim
theorem hot_flds {A : Around} {p : Addr × Obj} (h : Hot1 A p) : ∃ vs, p.2.data = .fields vs := let ⟨_, vs, e, _⟩ := h; ⟨vs, e⟩
theorem hot_of {X : Cx} {a : Addr} {oe : Obj} {pn : List (Addr × Obj)} {cls : Value} {d : Option Addr} (hz : L2N.Zn cls d oe) (hf : ∃ vs, oe.data = .fields vs) : Hot1 (X.suite a ((a, oe) :: pn)).A (a, oe) := by
  obtain ⟨vs, hv⟩ := hf
  exact ⟨rfl, vs, hv, hz.2.2 vs hv⟩
theorem room_suite {X : Cx} {k : Nat} {a : Addr} {pn : List (Addr × Obj)} (r : Room k X.A) : RoomH k (X.suite a pn).A := ⟨r.dp, r.un⟩
theorem kit_subT {K : PySem.W.Frag} {x : Addr} {T : String} (hm : PySem.W.kitMeta T = true) (hs : PySem.W.subIn K (.ref x) (.type T) = some true) : PySem.W.kitOne K (.ref x) (.type T) = some true := by
  unfold PySem.W.kitOne
  split
  · rfl
  · unfold PySem.W.kitCls
    dsimp only
    rw [if_pos hm]
    exact hs
end Sd

/-! lambdas that are values: made, kept, called -/
namespace Sd
open PySem PySem.Spec PyProof.Rows L2 LamX NdefX
/-- a lambda's words, its captured cells, its code object -/
structure NL where
  qual : Str
  params : Arguments
  body : Expr
  scope : Scope
  cl : List (Str × Addr)
  c : Addr
abbrev NL.obj (F : NL) (pm ctv : Value) : Obj := PySem.W.kla_obj "<lambda>" F.qual F.params F.body F.scope F.cl pm F.c ctv
/-- the object at f is the lambda F -/
def LamO (f : Addr) (F : NL) : HO := .ext fun h => ∃ (od : Option Addr) (sl : Array (Option Value)) (pm ctv : Value), h.get? f = some (⟨.type "function", od, .func (PySem.W.kla_fn "<lambda>" F.qual F.params F.body F.scope F.cl pm (.ref F.c) ctv), sl⟩ : Obj)
theorem lamO_at {P : Program} {w : World} {H : Hp} {h : Heap} {f : Addr} {F : NL} (hok : HOk P w H h) (e : H f = some (LamO f F)) : ∃ (od : Option Addr) (sl : Array (Option Value)) (pm ctv : Value), h.get? f = some (⟨.type "function", od, .func (PySem.W.kla_fn "<lambda>" F.qual F.params F.body F.scope F.cl pm (.ref F.c) ctv), sl⟩ : Obj) := by
  obtain ⟨z, _, _⟩ := hok f _ e
  exact z
section
variable {X : Cx} {pins : List (Addr × Obj)} {σ : L2.St} {H : Hp} {s : Shared}
theorem inv_lam {F : NL} {o : Obj} {t' : Nat} {pm ctv : Value} (I : Inv X pins σ H s) (ho : o = F.obj pm ctv) :
    Inv X pins σ (upd H s.heap.objs.size (LamO s.heap.objs.size F)) { s with heap := s.heap.push o, toks := t' } := by
  subst ho
  refine I.laid (a := s.heap.objs.size) (fun b u e => Heap.get?_push_of_some _ e) (Nat.le_refl _) ?_
  have e : (s.heap.push (F.obj pm ctv)).get? s.heap.objs.size = some (F.obj pm ctv) := Heap.get?_push_size _ rfl
  exact ⟨⟨_, _, pm, ctv, e⟩, ⟨_, e⟩, fun h1 h2 ⟨od, sl, p, t, z⟩ st => ⟨od, sl, p, t, st _ z⟩⟩
/-- a lambda is made, and known from now on -/
theorem lam_makeT {T : List NTab} {nm : Nat → Nat → Str} {c P : Addr} {params : Arguments} {body : Expr} {scope : Scope} {pos : Pos} {E : Value → Shared → Prop} {Q : Value → Shared → Prop} (I : Inv X pins σ H s) (TB : LamX.TabB X.base X.mg c P) (hcode : X.env.code = .ref c)
    (hm : (P, nm) ∈ T) (hn : nm pos.line pos.col = X.env.qual ++ "<lambda>") (hu : ∀ p ∈ T, p.1 = P → p.2 = nm) (hT : TabsN T H) (hdef : defaultsOf params X.env = ([], [])) (hfree : ∀ y ∈ scope.names, y.2 = .free → ∃ c, X.env.cells.lookup y.1 = some c)
    (h : ∀ (f c' : Addr) (H1 : Hp) (s' : Shared), Inv X pins σ H1 s' → ExtN H H1 → (∀ b, H1 b = Option.none → H b = Option.none) → TabsN T H1 → H f = none → H1 f = some (LamO f ⟨X.env.qual ++ "<lambda>", params, body, scope, cloFrom X.env.cells scope.names [], c'⟩) → H1 c' = some (CodeO c' (X.env.qual ++ "<lambda>")) → Q (.ref f) s') :
    wpAny (model X.prog X.w) X.A (eval (.Lambda params body scope pos) X.env) Q E s := by
  obtain ⟨ps, hP, ht, ha⟩ := (show TabN H P nm from hT _ hm)
  refine PySem.W.kla_eval hdef ?_
  have bP : s.heap.BuiltinsAt X.mg P := TB.bm.keeps I.bk
  have hP' : s.heap.get? P = some { cls := .none, data := .fields ps } := I.hok P _ hP
  cases hc : codeAmong pos ps.toList with
  | none =>
    refine PySem.W.kla_makeFunction (mg := X.mg) (c := c) (P := P) (ps := ps) (closure_ok hfree) I.ok.glob (I.mod.glob.keeps I.bk) hcode (TB.code.keeps I.bk) hP' ht hc TB.gP bP fun c' ctv h' tk hx hge hlt hrec htb => ?_
    obtain ⟨c2, oc, vs, t, e2, hoc, hd, hv⟩ := hrec
    cases e2
    have nC : H c' = none := I.hok.fresh hge
    have I1 := inv_table (t' := tk) (more := #[rawInt pos.line, rawInt pos.col, .ref c']) (h' := h') I hP (fun b o hb e => hx b o hb e) htb hge ⟨oc, vs, t, hoc, hd, hv⟩
    have hE : ExtN H (upd (upd H P (.tbl (ps ++ #[rawInt pos.line, rawInt pos.col, .ref c']))) c' (CodeO c' (X.env.qual ++ "<lambda>"))) := fun b o e n => by
      rw [upd_ne (ne_of_none e nC), upd_ne (fun z => n ps (Option.some.inj (e.symm.trans (by rw [z]; exact hP))))]
      exact e
    have eL : (ps ++ #[rawInt pos.line, rawInt pos.col, .ref c']).toList = ps.toList ++ [rawInt pos.line, rawInt pos.col, .ref c'] := by simp
    have T1 : TabsN T (upd (upd H P (.tbl (ps ++ #[rawInt pos.line, rawInt pos.col, .ref c']))) c' (CodeO c' (X.env.qual ++ "<lambda>"))) := fun p hp => by
      by_cases hb : p.1 = P
      · rw [hu p hp hb, hb]
        refine ⟨_, by rw [upd_ne (ne_of_none hP nC), upd_same], by rw [eL]; exact PySem.TriplesOk_snoc _ _ _ _ ht, fun p' cv hcv => ?_⟩
        rw [eL] at hcv
        rcases among_app2 _ ht hcv with z | ⟨z, z1, z2⟩
        · obtain ⟨c0, e1, e2⟩ := ha p' cv z
          exact ⟨c0, e1, hE _ _ e2 codeO_ne⟩
        · refine ⟨c', z, ?_⟩
          rw [← z1, ← z2, hn]
          exact upd_same
      · obtain ⟨ps', a1, a2, a3⟩ := hT p hp
        refine ⟨ps', by rw [upd_ne (ne_of_none a1 nC), upd_ne hb]; exact a1, a2, fun p' cv hcv => ?_⟩
        obtain ⟨c0, e1, e2⟩ := a3 p' cv hcv
        exact ⟨c0, e1, hE _ _ e2 codeO_ne⟩
    have nF := I1.hok.fresh (Nat.le_refl _)
    have I2 := inv_lam (F := ⟨X.env.qual ++ "<lambda>", params, body, scope, cloFrom X.env.cells scope.names [], c'⟩) (t' := tk) (pm := (X.mg "__name__").getD .none) (ctv := ctv) I1 rfl
    refine h h'.objs.size c' _ _ I2 (fun b o e n => ?_) (fun b e => upd_none (upd_none (upd_none e))) (T1.ext fun b o e => ?_) (I.hok.fresh (Nat.le_trans hge (Nat.le_of_lt hlt))) upd_same ?_
    · have e1 := hE b o e n
      exact (upd_ne (ne_of_none e1 nF)).trans e1
    · exact (upd_ne (ne_of_none e nF)).trans e
    · exact (upd_ne (Nat.ne_of_lt hlt)).trans upd_same
  | some cv =>
    obtain ⟨c', e, hco⟩ := ha pos cv hc
    subst e
    rw [hn] at hco
    refine PySem.W.kla_makeFunctionHit (mg := X.mg) (c := c) (P := P) (ps := ps) (closure_ok hfree) I.ok.glob (I.mod.glob.keeps I.bk) hcode (TB.code.keeps I.bk) hP' ht hc bP fun ctv h' tk hx hsz => ?_
    have I1 : Inv X pins σ H { s with heap := h', toks := tk } := I.kept hx
    have nF : H h'.objs.size = none := I1.hok.fresh (Nat.le_refl _)
    have I2 := inv_lam (F := ⟨X.env.qual ++ "<lambda>", params, body, scope, cloFrom X.env.cells scope.names [], c'⟩) (t' := tk) (pm := (X.mg "__name__").getD .none) (ctv := ctv) I1 rfl
    refine h h'.objs.size c' _ _ I2 (fun b o e n => ?_) (fun b e => upd_none e) (hT.ext fun b o e => ?_) nF upd_same ?_
    · exact (upd_ne (ne_of_none e nF)).trans e
    · exact (upd_ne (ne_of_none e nF)).trans e
    · exact (upd_ne (ne_of_none hco nF)).trans hco
end
/-- lambda ..: ..  T the tables, mk the lambda by its code object -/
def tLamb (T : List NTab) (mk : Addr → NL) : TE := fun σ H Q => TabsN T H ∧ ∀ (f c' : Addr) (H1 : Hp), ExtN H H1 → (∀ b, H1 b = Option.none → H b = Option.none) → TabsN T H1 → H f = none → H1 f = some (LamO f (mk c')) → H1 c' = some (CodeO c' (mk c').qual) → Q (.ref f) H1
theorem pe_lamb {X : Cx} {T : List NTab} {nm : Nat → Nat → Str} {c P : Addr} {params : Arguments} {body : Expr} {scope : Scope} {pos : Pos} (TB : LamX.TabB X.base X.mg c P) (hcode : X.env.code = .ref c) (hm : (P, nm) ∈ T) (hn : nm pos.line pos.col = X.env.qual ++ "<lambda>") (hu : ∀ p ∈ T, p.1 = P → p.2 = nm) (hdef : defaultsOf params X.env = ([], []))
    (hfree : ∀ y ∈ scope.names, y.2 = .free → X.env.scope.names.lookup y.1 = some .cell ∨ X.env.scope.names.lookup y.1 = some .free) :
    PE X (.Lambda params body scope pos) (tLamb T fun c' => ⟨X.env.qual ++ "<lambda>", params, body, scope, cloFrom X.env.cells scope.names [], c'⟩) := by
  refine ⟨fun pins s σ H Q I h => ?_⟩
  obtain ⟨hT, h⟩ := h
  have hfr : ∀ y ∈ scope.names, y.2 = .free → ∃ c, X.env.cells.lookup y.1 = some c := fun y hy e => (hfree y hy e).elim (fun z => I.ok.has _ (.inl z)) fun z => I.ok.has _ (.inr z)
  exact lam_makeT I TB hcode hm hn hu hT hdef hfr fun f c' H1 s' I1 eN nn T1 f0 f1 c1 => ⟨.ref f, H1, I1, rfl, h f c' H1 eN nn T1 f0 f1 c1⟩
/-! ### what a lambda promises -/
abbrev NL.nf (F : NL) : NF := ⟨"<lambda>", F.qual, F.params, [], F.scope, F.cl, F.c⟩
structure LOk (P : Program) (w : World) (K : PySem.W.Frag) (mg : Str → Option Value) (base : Heap) (CX : CXT) (k : Nat) (f : Addr) (F : NL) (ps fr : List Str) (sp : List (Option V) → Sp) : Prop where
  len : ∀ ws vs H Q E, sp ws vs H Q E → vs.length = ps.length
  run : ∀ (A : Around) (outer : List Env) (s : Shared) (H : Hp) (us : List Value) (vs : List V) (ws : List (Option V)) (Q : VK) (E : XK), Room k A → Env0 P w K mg base A outer s H → H f = some (LamO f F) → H F.c = some (CodeO F.c F.qual) →
    CellsAt F.cl fr ws s.heap H → Vals vs us → sp ws vs H Q E → codeAny (model P w) A (.call (.ref f) ⟨us, []⟩) (CR CX outer P w H s Q E) s
theorem lok_of {CX : CXT} {P : Program} {w : World} {K : PySem.W.Frag} {mg : Str → Option Value} {base : Heap} {N ps fr : List Str} {F : NL} {f : Addr} {k : Nat} {sp : List (Option V) → Sp} (S : NScope N ps fr F.scope) (hb : ∀ (pm ctv : Value) (us : List Value), us.length = ps.length → bindArgs (PySem.W.kla_fn "<lambda>" F.qual F.params F.body F.scope F.cl pm (.ref F.c) ctv) ⟨us, []⟩ = pure (ps.zip us)) (len : ∀ ws vs H Q E, sp ws vs H Q E → vs.length = ps.length)
    (hbody : ∀ (A : Around) (outer : List Env) (s : Shared) (H : Hp) (vs : List V) (ws : List (Option V)) (Q : VK) (E : XK), Room k (A.deeper (envF F.nf f s.heap.objs.size)) → ws.length = fr.length → sp ws vs H Q E →
      ∃ t, PE (ncx CX P w K mg base N F.nf f A outer s H E) F.body t ∧ t (startF N vs ws) H Q) :
    LOk P w K mg base CX (k + 1) f F ps fr sp := by
  refine ⟨len, fun A outer s H us vs ws Q E hr e0 hf hc C r hsp => ?_⟩
  have hl := len _ _ _ _ _ hsp
  have lim : s.heap.NoLimit := e0.mod.nolimit.keeps fun b o e => (e0.bs b o e).1
  obtain ⟨od, sl, pm, ctv, ho⟩ := lamO_at e0.hok hf
  refine PySem.W.kla_callFunE hr.depth ho rfl S.co S.gen rfl (codeO_at e0.hok hc) ?_
  show wpAny _ _ (bindArgs (PySem.W.kla_fn "<lambda>" F.qual F.params F.body F.scope F.cl pm (.ref F.c) ctv) ⟨us, []⟩) _ _ _
  rw [hb pm ctv us (by rw [← r.length]; exact hl)]
  refine wpAny_pure (wpAny_newFunctionEnv S.nocell (fun ⟨n, _⟩ hy => S.par n (List.of_mem_zip hy).1) (fun h₁ hns hsb => ⟨lim.fresh _ hsb, ?_⟩) S.kind)
  show codeAny _ _ (.expr F.body (envF F.nf f s.heap.objs.size)) _ _
  have kp : ∀ b o, s.heap.get? b = some o → h₁.get? b = some o := fun b o e => hsb.extBut b o (Nat.ne_of_lt (Heap.lt_size e)) (Heap.get?_push_of_some _ e)
  obtain ⟨t, ht, hq⟩ := hbody A outer s H vs ws Q E (hr.deeper _) C.len hsp
  have I : Inv (ncx CX P w K mg base N F.nf f A outer s H E) [] (startF N vs ws) H { s with heap := h₁, toks := s.toks + (ps.zip us).length } := inv_startN S hr.hd e0 hl r C hns kp
  refine PySem.W.kla_codeExpr (wpAny_mono (ht.run [] _ (startF N vs ws) H Q I hq) (fun v s' hq => ?_) fun e s' hq => hq)
  obtain ⟨w', H', J', rv, q⟩ := hq
  exact ⟨w', H', J'.os, J'.bare, J'.base, J'.hok, rv, q⟩
theorem LOk.mono {CX : CXT} {P : Program} {w : World} {K : PySem.W.Frag} {mg : Str → Option Value} {base : Heap} {ps fr : List Str} {F : NL} {f : Addr} {j k : Nat} {sp : List (Option V) → Sp} (o : LOk P w K mg base CX j f F ps fr sp) (h : j ≤ k) : LOk P w K mg base CX k f F ps fr sp := ⟨o.len, fun A outer s H us vs ws Q E hr => o.run A outer s H us vs ws Q E (hr.mono h)⟩
/-! ### a lambda that captures nothing, called by a name -/
def tCallLm (i : Nat) (R : NL → Sp → Prop) (E : L2.St → XK) (t : TA) : TE := fun σ H Q => ∃ f F, σ[i]? = some (some (.ref f)) ∧ H f = some (LamO f F) ∧ F.cl = [] ∧ t σ H fun vs H1 => H1 f = some (LamO f F) ∧ H1 F.c = some (CodeO F.c F.qual) ∧ ∃ sp, R F sp ∧ sp vs H1 Q (E σ)
theorem fnAt_lam {X : Cx} {pins : List (Addr × Obj)} {σ : L2.St} {H : Hp} {s : Shared} {f : Addr} {F : NL} (I : Inv X pins σ H s) (e : H f = some (LamO f F)) : PySem.W.FnAt f s.heap := by
  obtain ⟨od, sl, pm, ctv, ho⟩ := lamO_at I.hok e
  exact ⟨_, od, _, sl, ho⟩
section
variable {X : Cx} {CX : CXT} {i k : Nat} {x : Str} {R : NL → Sp → Prop} {E : L2.St → XK} {t : TA} {e : Expr} {es : List Expr} {p pos : Pos}
theorem pe_callLm (A : ∀ f F sp, F.cl = [] → R F sp → ∃ ps, LOk X.prog X.w X.K X.mg X.base CX k f F ps [] (fun _ => sp)) (hr : Room k X.A) (hN : X.N[i]? = some x) (hv : Vis X.env.scope x) (hx : ∀ σ, PassesAt CX X σ (E σ)) (ha : PA X (e :: es) t)
    (hd : (x == ("__debug__" : Str)) = false := by decide) (hcd : (x == ("__classdict__" : Str)) = false := by decide)
    (he : starEach (e :: es) X.env = (false, eval e X.env) :: starEach es X.env := by rfl) (hpl : (backTo pos (starEach es X.env)).any (·.1) = false := by rfl) :
    PE X (.Call (.Name x p) (e :: es) [] pos) (tCallLm i R E t) := by
  refine ⟨fun pins s σ H Q I h => ?_⟩
  obtain ⟨f, F, hs, hf, hcl, ht⟩ := h
  refine wpAny_Call_Name_kw (thn ((pe_var (pos := p) hN hv hd hcd).run pins s σ H (fun v H1 => v = .ref f ∧ H1 = H) I ⟨.ref f, hs, rfl, rfl⟩) fun u s1 ⟨v, H1, I1, r1, q1⟩ => ?_)
  obtain ⟨ev, eH⟩ := q1
  subst ev
  rw [eH] at I1
  obtain rfl : u = Value.ref f := r1
  refine PySem.W.callWith_F (first := []) (fnAt_lam I1 hf) (thn (ha.run pos pins s1 σ H _ I1 ht) fun us s2 ⟨vs, H2, I2, r, h1, h2, sp, hR, q⟩ => ⟨fnAt_lam I2 h1, ?_⟩) he hpl
  show wpAny _ _ (call (.ref f) us) _ _ _
  obtain ⟨ps, L⟩ := A f F sp hcl hR
  have C : CellsAt F.cl [] [] s2.heap H2 := by
    rw [hcl]
    exact ⟨rfl, fun y c z => (by cases z), fun x y c z => (by cases z), fun i y z => (by cases z)⟩
  refine wpAny_call (codeAny_mono (L.run X.A X.stack s2 H2 us vs [] Q (E σ) hr I2.env0 h1 h2 C r q) fun r s' hq => ?_)
  cases r with
  | error e => exact hx σ pins H2 s2 e s' I2 hq
  | ok fl =>
    cases fl with
    | ret u => exact I2.after hq
    | next => exact False.elim hq
    | brk => exact False.elim hq
    | cont => exact False.elim hq
end
/-! ### lambdas that capture nothing, by their words -/
structure Lam0 where
  qual : Str
  params : Arguments
  body : Expr
  scope : Scope
abbrev Lam0.at (L : Lam0) (c : Addr) : NL := ⟨L.qual, L.params, L.body, L.scope, [], c⟩
theorem cloFrom_none {cells : List (Str × Addr)} : ∀ (ns : List (Str × NameKind)) (acc : List (Str × Addr)), ns.all (fun y => !decide (y.2 = .free)) = true → cloFrom cells ns acc = acc
  | [], _, _ => rfl
  | (n, k) :: r, acc, h => by
    simp only [List.all_cons, Bool.and_eq_true, Bool.not_eq_true', decide_eq_false_iff_not] at h
    have e : (k == NameKind.free) = false := by
      cases k <;> first | rfl | exact absurd rfl h.1
    rw [cloFrom, e]
    exact cloFrom_none r acc h.2
theorem pe_lamb0 {X : Cx} {T : List NTab} {nm : Nat → Nat → Str} {c P : Addr} {params : Arguments} {body : Expr} {scope : Scope} {pos : Pos} {L : Lam0} (TB : LamX.TabB X.base X.mg c P) (hcode : X.env.code = .ref c) (hm : (P, nm) ∈ T) (hu : ∀ p ∈ T, p.1 = P → p.2 = nm) (hn : nm pos.line pos.col = X.env.qual ++ "<lambda>") (hdef : defaultsOf params X.env = ([], []))
    (hfree : scope.names.all (fun y => !decide (y.2 = .free)) = true) (hL : L = ⟨X.env.qual ++ "<lambda>", params, body, scope⟩) : PE X (.Lambda params body scope pos) (tLamb T L.at) := by
  have e := pe_lamb (body := body) TB hcode hm hn hu hdef (fun y hy z => by
    have q := List.all_eq_true.mp hfree y hy
    simp [z] at q)
  rw [cloFrom_none _ _ hfree] at e
  subst hL
  exact e
/-! ### where a lambda stands in a def -/
def kidsE : Expr → List Expr
  | .BoolOp _ vs _ => vs
  | .BinOp a _ b _ => [a, b]
  | .UnaryOp _ a _ => [a]
  | .IfExp a b c _ => [a, b, c]
  | .ListComp e _ _ _ => [e]
  | .Compare a _ bs _ => a :: bs
  | .Call f as _ _ => f :: as
  | .Attribute a _ _ => [a]
  | .Subscript a b _ => [a, b]
  | .List es _ => es
  | .Tuple es _ _ => es
  | _ => []
def kidsX : Stmt → List Expr
  | .Return (some e) _ => [e]
  | .Assign _ e _ => [e]
  | .If e _ _ _ => [e]
  | .For _ e _ _ _ => [e]
  | .While e _ _ _ => [e]
  | .Expr e _ => [e]
  | _ => []
def kidsS : Stmt → List Stmt
  | .FunctionDef (body := b) .. => b
  | .If _ a b _ => a ++ b
  | .For _ _ a b _ => a ++ b
  | .While _ a b _ => a ++ b
  | _ => []
def atE : List Nat → Expr → Expr
  | [], e => e
  | i :: r, e => atE r ((kidsE e).getD i e)
def atS : List Nat → Stmt → Stmt
  | [], s => s
  | i :: r, s => atS r ((kidsS s).getD i s)
def lamIn (q : Str) : Expr → Lam0
  | .Lambda a b s _ => ⟨q, a, b, s⟩
  | e => ⟨q, ⟨[], [], none, [], [], none, []⟩, e, ⟨.function, [], false, false, []⟩⟩
/-- the lambda at the place p, r of the def st -/
def lamOf (q : Str) (st : Stmt) (p r : List Nat) : Lam0 := lamIn q (atE r ((kidsX (atS p st)).getD 0 (.Name "" ⟨0, 0, 0, 0⟩)))
/-! ### a def that makes lambdas: its code object is known -/
section
variable {P : Program} {w : World} {K : PySem.W.Frag} {mg : Str → Option Value} {base : Heap}
theorem Fun.okC {x qual : Str} {st : Stmt} {f c : Addr} {fd : FuncData} {N ps : List Str} {k : Nat} {sp : Sp} (F : Fun K x qual st f fd) (hc : fd.code = .ref c) (S : FnScope N ps (defScope st)) (len : ∀ vs H Q E, sp vs H Q E → vs.length = ps.length)
    (hbody : ∀ (A : Around) (outer : List Env) (s : Shared) (H : Hp) (vs : List V) (Q : VK) (E : XK), Room k (A.deeper (envOfC qual (defScope st) s.heap.objs.size f (.ref c))) → sp vs H Q E →
      ∃ t, PSs (cxOf CX0 P w K mg base N qual (defScope st) f (.ref c) A outer s H E).nox (defBody st) t ∧ t { nx := fun _ H' => Q .non H', rt := Q } (start N vs) H) : FnOk P w K mg base CX0 (k + 1) f fd ps sp := by
  obtain ⟨oc, od, kV, doc, pm, an, cdv, ct, osl, rfl, lk, hcd⟩ := F.ex
  have e : cdv = .ref c := hc
  subst e
  refine fn_of lk hcd S len fun A outer s H vs Q E hr hsp => ?_
  obtain ⟨t, h, q⟩ := hbody A outer s H vs Q E hr hsp
  exact ⟨t, h.nox, q⟩
end
/-! ### the end, with the tables of the defs that make lambdas -/
theorem tabIn_of {K : PySem.W.Frag} {x : Str} {f c P : Addr} {oc e : Value} {od dd : Option Addr} {fd : FuncData} {sl sv : Array (Option Value)} {vs : Array Value} (ha : PySem.W.nsIn K mainGlobals x = some (some (.ref f))) (hl : K.lookup f = some ⟨oc, od, .func fd, sl⟩) (hc : fd.code = .ref c) (hlc : K.lookup c = some ⟨e, dd, .fields vs, sv⟩) (h11 : vs[11]? = some (.ref P)) : PySem.W.tabIn K x = some (c, P) := by
  unfold PySem.W.tabIn
  rw [ha]
  dsimp only
  rw [hl]
  dsimp only
  rw [hc]
  dsimp only
  rw [hlc]
  dsimp only
  rw [h11]
theorem tabsN_start {T : List NTab} {H : Hp} (h : ∀ p ∈ T, H p.1 = some (.tbl #[])) : TabsN T H := fun p hp => ⟨#[], h p hp, by first | trivial | exact .nil | simp [TriplesOk], fun pos cv e => by simp [codeAmong] at e⟩
theorem walk_ofTabs {l : PySem.W.OpenLaw} {n k : Nat} {q : Program} {loose : List Str} {XP : (Str → Option Value) → Heap → Prop} {YP : World → Heap → Prop} {d : DefRec} {K : Params → PySem.W.Frag} {CX : World → CXT} {x : Str} {ys : List Str}
    (hn : l.most = some n) (hn2 : n ≤ sizeLine) (hdf : d.params.defaults = []) (hr : Room k callerA) (hrec : (ys.all fun y => (recsOf q).any fun e => e.name == y) = true) (hY : ∀ (w : World) (h : Heap), YP w h → (K w.params).In h)
    (F : ∀ (w : World) (mg : Str → Option Value) (fa : Addr) (h : Heap), YP w h → (K w.params).In h → h.Ns mainGlobals mg → mg d.name = some (.ref fa) →
      (∀ y ∈ ys, ∀ c P, PySem.W.tabIn (K w.params) y = some (c, P) → PySem.W.CodeHd h c P ∧ h.get? P = some { cls := .none, data := .fields #[] }) → LawAtS l w (K w.params) (CX w) k n x mg fa h)
    (hCX : ∀ (w : World) (H : Hp) (s : Shared) (e : Value) (s' : Shared), CX w [] H s (fun _ _ _ => False) e s' → False) :
    PySem.W.WalkO q loose XP YP l.row.toRowW d [] (fun f vs => PySem.call f vs) := by
  refine Att.attach_callB hn hdf fun w s₀ s₁ mg mb fa o pm cd doc a vs ns G Y ho hd hcd hmg hobj hints hlen hbits hg => ?_
  have KX := hY w _ Y
  have tabs : ∀ y ∈ ys, ∀ c P, PySem.W.tabIn (K w.params) y = some (c, P) → PySem.W.CodeHd s₁.heap c P ∧ s₁.heap.get? P = some { cls := .none, data := .fields #[] } := fun y hy c P e => by
    have q1 := List.all_eq_true.mp hrec y hy
    cases hf : (recsOf q).find? (fun e => e.name == y) with
    | none =>
      obtain ⟨z, hz, hz2⟩ := List.any_eq_true.mp q1
      exact absurd hz2 (List.find?_eq_none.mp hf z hz)
    | some dd => exact PySem.W.tab_of G.T KX hf e
  obtain ⟨fd, cs, sp, hT, nT, C, hb, hsp, hF⟩ := F w mg fa _ Y KX G.T.g hmg tabs
  exact law_callTs KX G.T.g G.T.b G.T.builtins G.T.nolimit hg hT nT C G.T.bmain hobj hints (Nat.le_trans hlen hn2) hr hF hb (fun H hH hS => hsp H a ns hlen hbits hH hS) fun H e s' => hCX w H s₁ e s'
end Sd

/-! lambdas that capture names, handed to a def that calls them while the maker waits -/
namespace Sd
open PySem PySem.Spec PyProof.Rows L2 LamX NdefX
/-- captured cells, their names, what they hold -/
structure Cap where
  cl : List (Str × Addr)
  fr : List Str
  ws : List (Option V)
abbrev Lam0.atc (L : Lam0) (cl : List (Str × Addr)) (c : Addr) : NL := ⟨L.qual, L.params, L.body, L.scope, cl, c⟩
theorem later2 {X : Cx} {pins : List (Addr × Obj)} {σ : L2.St} {H : Hp} {s : Shared} {cl : List (Str × Addr)} {fr : List Str} {ws : List (Option V)} (C : CellsAt cl fr ws X.s_0.heap X.H_0) (hx : X.ex = []) (I : Inv X pins σ H s) : CellsAt cl fr ws s.heap H := by
  have nx : ∀ c, c ∉ X.ex := fun c => by rw [hx]; simp
  have kp : ∀ y c, cl.lookup y = some c → ∀ v, X.s_0.heap.IsCell c v → s.heap.IsCell c v := fun y c e v ⟨o, ho, hd⟩ => by
    obtain ⟨sl, q⟩ := I.base.any ho (C.all y c e).1 (nx c)
    exact ⟨_, q, hd⟩
  refine ⟨C.len, fun y c e => ?_, C.inj, fun i y e => ?_⟩
  · obtain ⟨n, v, z⟩ := C.all y c e
    refine ⟨?_, v, kp y c e v z⟩
    obtain ⟨o, ho, _⟩ := z
    exact I.base.free c o ho n (nx c)
  · obtain ⟨c, hc, hv⟩ := C.has i y e
    refine ⟨c, hc, fun v ev => ?_⟩
    obtain ⟨u, r, z⟩ := hv v ev
    exact ⟨u, r, kp y c hc _ z⟩
/-- lambda ..: .. that captures -/
theorem pe_lambC {X : Cx} {T : List NTab} {nm : Nat → Nat → Str} {c P : Addr} {params : Arguments} {body : Expr} {scope : Scope} {pos : Pos} {L : Lam0} {cl : List (Str × Addr)} (TB : LamX.TabB X.base X.mg c P) (hcode : X.env.code = .ref c) (hm : (P, nm) ∈ T) (hu : ∀ p ∈ T, p.1 = P → p.2 = nm) (hn : nm pos.line pos.col = X.env.qual ++ "<lambda>") (hdef : defaultsOf params X.env = ([], []))
    (hfree : ∀ y ∈ L.scope.names, y.2 = .free → X.env.scope.names.lookup y.1 = some .cell ∨ X.env.scope.names.lookup y.1 = some .free) (hL : L = ⟨X.env.qual ++ "<lambda>", params, body, scope⟩) (hcl : cl = cloFrom X.env.cells L.scope.names []) : PE X (.Lambda params body scope pos) (tLamb T (L.atc cl)) := by
  subst hL
  have e := pe_lamb (body := body) TB hcode hm hn hu hdef hfree
  subst hcl
  exact e
/-- the slot's lambda called -/
def tCallLc (i : Nat) (c : Cap) (R : NL → List Str → (List (Option V) → Sp) → Prop) (E : L2.St → XK) (t : TA) : TE := fun σ H Q => ∃ f F, σ[i]? = some (some (.ref f)) ∧ H f = some (LamO f F) ∧ F.cl = c.cl ∧ t σ H fun vs H1 => H1 f = some (LamO f F) ∧ H1 F.c = some (CodeO F.c F.qual) ∧ ∃ sp, R F c.fr sp ∧ sp c.ws vs H1 Q (E σ)
section
variable {X : Cx} {CX : CXT} {i k : Nat} {x : Str} {E : L2.St → XK} {t : TA} {e : Expr} {es : List Expr} {p pos : Pos} {c : Cap} {R : NL → List Str → (List (Option V) → Sp) → Prop}
theorem run_lc {pins : List (Addr × Obj)} {σ : L2.St} {H : Hp} {s : Shared} {Q : VK} {f : Addr} {F : NL} {sp : List (Option V) → Sp} {us : List Value} {vs : List V} {E : XK} (A : ∀ f F fr sp, R F fr sp → ∃ ps, LOk X.prog X.w X.K X.mg X.base CX k f F ps fr sp) (hr : Room k X.A) (C : CellsAt c.cl c.fr c.ws X.s_0.heap X.H_0) (hex : X.ex = []) (hx : PassesAt CX X σ E) (I : Inv X pins σ H s)
    (hcl : F.cl = c.cl) (h1 : H f = some (LamO f F)) (h2 : H F.c = some (CodeO F.c F.qual)) (hR : R F c.fr sp) (r : Vals vs us) (q : sp c.ws vs H Q E) : wpAny (model X.prog X.w) X.A (call (.ref f) us) (EP X pins σ Q) X.xe s := by
  obtain ⟨ps, L⟩ := A f F c.fr sp hR
  have C2 : CellsAt F.cl c.fr c.ws s.heap H := by
    rw [hcl]
    exact later2 C hex I
  refine wpAny_call (codeAny_mono (L.run X.A X.stack s H us vs c.ws Q E hr I.env0 h1 h2 C2 r q) fun r s' hq => ?_)
  cases r with
  | error e => exact hx pins H s e s' I hq
  | ok fl =>
    cases fl with
    | ret u => exact I.after hq
    | next => exact False.elim hq
    | brk => exact False.elim hq
    | cont => exact False.elim hq
theorem pe_callLc (A : ∀ f F fr sp, R F fr sp → ∃ ps, LOk X.prog X.w X.K X.mg X.base CX k f F ps fr sp) (hr : Room k X.A) (C : CellsAt c.cl c.fr c.ws X.s_0.heap X.H_0) (hex : X.ex = []) (hN : X.N[i]? = some x) (hv : Vis X.env.scope x) (hx : ∀ σ, PassesAt CX X σ (E σ)) (ha : PA X (e :: es) t)
    (hd : (x == ("__debug__" : Str)) = false := by decide) (hcd : (x == ("__classdict__" : Str)) = false := by decide)
    (he : starEach (e :: es) X.env = (false, eval e X.env) :: starEach es X.env := by rfl) (hpl : (backTo pos (starEach es X.env)).any (·.1) = false := by rfl) :
    PE X (.Call (.Name x p) (e :: es) [] pos) (tCallLc i c R E t) := by
  refine ⟨fun pins s σ H Q I h => ?_⟩
  obtain ⟨f, F, hs, hf, hcl, ht⟩ := h
  refine wpAny_Call_Name_kw (thn ((pe_var (pos := p) hN hv hd hcd).run pins s σ H (fun v H1 => v = .ref f ∧ H1 = H) I ⟨.ref f, hs, rfl, rfl⟩) fun u s1 ⟨v, H1, I1, r1, q1⟩ => ?_)
  obtain ⟨ev, eH⟩ := q1
  subst ev
  rw [eH] at I1
  obtain rfl : u = Value.ref f := r1
  refine PySem.W.callWith_F (first := []) (fnAt_lam I1 hf) (thn (ha.run pos pins s1 σ H _ I1 ht) fun us s2 ⟨vs, H2, I2, r, h1, h2, sp, hR, q⟩ => ⟨fnAt_lam I2 h1, ?_⟩) he hpl
  exact run_lc A hr C hex (hx σ) I2 hcl h1 h2 hR r q
theorem pe_callLc0 (A : ∀ f F fr sp, R F fr sp → ∃ ps, LOk X.prog X.w X.K X.mg X.base CX k f F ps fr sp) (hr : Room k X.A) (C : CellsAt c.cl c.fr c.ws X.s_0.heap X.H_0) (hex : X.ex = []) (hN : X.N[i]? = some x) (hv : Vis X.env.scope x) (hx : ∀ σ, PassesAt CX X σ (E σ))
    (hd : (x == ("__debug__" : Str)) = false := by decide) (hcd : (x == ("__classdict__" : Str)) = false := by decide) : PE X (.Call (.Name x p) [] [] pos) (tCallLc i c R E tNil) := by
  refine ⟨fun pins s σ H Q I h => ?_⟩
  obtain ⟨f, F, hs, hf, hcl, h1, h2, sp, hR, q⟩ := h
  refine wpAny_Call_Name_kw (thn ((pe_var (pos := p) hN hv hd hcd).run pins s σ H (fun v H1 => v = .ref f ∧ H1 = H) I ⟨.ref f, hs, rfl, rfl⟩) fun u s1 ⟨v, H1, I1, r1, q1⟩ => ?_)
  obtain ⟨ev, eH⟩ := q1
  subst ev
  rw [eH] at I1
  obtain rfl : u = Value.ref f := r1
  refine PySem.W.callWith_F0 (first := []) (fnAt_lam I1 hf) ?_
  exact run_lc A hr C hex (hx σ) I1 hcl h1 h2 hR .nil q
end
theorem passLAt {X : Cx} {σ : L2.St} : PassesAt (L2.CX X.prog X.w) X σ E0 := fun pins H s e s' I c => passL pins σ H s e s' I c
/-! ### a def that gets a lambda -/
structure FnL (P : Program) (w : World) (K : PySem.W.Frag) (mg : Str → Option Value) (base : Heap) (CX : CXT) (k : Nat) (f : Addr) (fd : FuncData) (ps : List Str) (sp : Cap → Sp) : Prop where
  len : ∀ c vs H Q E, sp c vs H Q E → vs.length = ps.length
  run : ∀ (A : Around) (outer : List Env) (s : Shared) (H : Hp) (args : Args) (us : List Value) (vs : List V) (c : Cap) (Q : VK) (E : XK), Room k A → Env0 P w K mg base A outer s H → CellsAt c.cl c.fr c.ws s.heap H → BindsTo s fd args (ps.zip us) → Vals vs us → sp c vs H Q E →
    codeAny (model P w) A (.call (.ref f) args) (CR CX outer P w H s Q E) s
theorem Fun.okL {P : Program} {w : World} {K : PySem.W.Frag} {mg : Str → Option Value} {base : Heap} {x qual : Str} {st : Stmt} {f : Addr} {fd : FuncData} {N ps : List Str} {k : Nat} {sp : Cap → Sp} (F : Fun K x qual st f fd) (S : FnScope N ps (defScope st)) (len : ∀ c vs H Q E, sp c vs H Q E → vs.length = ps.length)
    (hbody : ∀ (cdv : Value) (A : Around) (outer : List Env) (s : Shared) (H : Hp) (vs : List V) (c : Cap) (Q : VK) (E : XK), Room k (A.deeper (envOfC qual (defScope st) s.heap.objs.size f cdv)) → CellsAt c.cl c.fr c.ws s.heap H → sp c vs H Q E →
      ∃ t, PSs (cxOf CX0 P w K mg base N qual (defScope st) f cdv A outer s H E).nox (defBody st) t ∧ t { nx := fun _ H' => Q .non H', rt := Q } (start N vs) H) : FnL P w K mg base CX0 (k + 1) f fd ps sp := by
  obtain ⟨oc, od, kV, doc, pm, an, cdv, ct, osl, rfl, lk, hcd⟩ := F.ex
  refine ⟨len, fun A outer s H args us vs c Q E hr e0 C hb r hsp => run_ofS lk hcd S hr e0 hb r (len _ _ _ _ _ hsp) fun hr2 => ?_⟩
  obtain ⟨t, h, q⟩ := hbody cdv A outer s H vs c Q E hr2 C hsp
  exact ⟨t, h.nox, q⟩
def tCallL (c : L2.St → Cap) (sp : Cap → Sp) (E : XK) (t : TA) : TE := fun σ H Q => t σ H fun vs H1 => sp (c σ) vs H1 Q E
theorem pe_callL {X : Cx} {CX : CXT} {k : Nat} {f : Addr} {fd : FuncData} {ps fr : List Str} {sp : Cap → Sp} {cl : List (Str × Addr)} {js : List Nat} {x : Str} {E : XK} {t : TA} {e : Expr} {es : List Expr} {q pos : Pos} (F : FnL X.prog X.w X.K X.mg X.base CX k f fd ps sp) (hr : Room k X.A) (hg : Gl X x) (hm : X.mg x = some (.ref f)) (hk : PySem.W.keepIn X.K (.ref f) = true) (hb : Binds X.K fd ps []) (cp : X.Ok → Caps X cl fr js) (hx : Passes CX X E)
    (ha : PA X (e :: es) t) (hdb : (x == ("__debug__" : Str)) = false := by decide) (he : starEach (e :: es) X.env = (false, eval e X.env) :: starEach es X.env := by rfl) (hpl : (backTo pos (starEach es X.env)).any (·.1) = false := by rfl) :
    PE X (.Call (.Name x q) (e :: es) [] pos) (tCallL (fun σ => ⟨cl, fr, js.map (slotAt σ)⟩) sp E t) := by
  refine ⟨fun pins s σ H Q I h => ?_⟩
  refine wpAny_Call_Name_kw (ld_glob I hg hm ?_ hdb)
  refine PySem.W.callWith_K (h₀ := X.base) I.ok.mod.kin hk (thn (ha.run pos pins s σ H _ I h) fun us s1 ⟨vs, H1, I1, r, q⟩ => ⟨I1.kIn, ?_⟩) he hpl
  have hl : us.length = ps.length := by rw [← r.length]; exact F.len _ _ _ _ _ q
  have b := hb s1 us I1.kIn (by rw [List.append_nil]; exact hl)
  rw [List.append_nil] at b
  refine wpAny_call (codeAny_mono (F.run X.A X.stack s1 H1 ⟨us, []⟩ us vs ⟨cl, fr, js.map (slotAt σ)⟩ Q E hr I1.env0 (cells_of I1 (cp I1.ok)) b r q) fun r s' hq => ?_)
  cases r with
  | error e => exact hx pins σ H1 s1 e s' I1 hq
  | ok fl =>
    cases fl with
    | ret u => exact I1.after hq
    | next => exact False.elim hq
    | brk => exact False.elim hq
    | cont => exact False.elim hq
/-- how a lambda of the running def captures -/
theorem caps_of {X : Cx} {sc scope : Scope} {fr : List Str} {js : List Nat} {cl : List (Str × Addr)} (h : ndefB sc scope fr = true) (hs : X.env.scope = sc) (hcl : cl = cloFrom X.env.cells scope.names []) (hjs : js.map (fun j => X.N[j]?) = fr.map some) (ok : X.Ok) : Caps X cl fr js := by
  subst hs hcl
  exact Caps.made ok (ndef_free h) (ndef_fr h) hjs
end Sd

/-! The ring theorem, first part: sets of cells of the plane, their rims, the walk with the cells at the right hand, even sets of sides.
No Python here. -/
namespace Sd.J
abbrev Cell := Int × Int
/-- the cell beside, across side 0 (above), 1 (right), 2 (below), 3 (left) -/
def nb (x : Cell) (s : Fin 4) : Cell :=
  match s with
  | 0 => (x.1 - 1, x.2)
  | 1 => (x.1, x.2 + 1)
  | 2 => (x.1 + 1, x.2)
  | 3 => (x.1, x.2 - 1)
theorem fin4 (P : Fin 4 → Prop) (h0 : P 0) (h1 : P 1) (h2 : P 2) (h3 : P 3) : ∀ s, P s
  | 0 => h0
  | 1 => h1
  | 2 => h2
  | 3 => h3
theorem nb_back (x : Cell) (s : Fin 4) : nb (nb x s) (s + 2) = x := by
  revert s
  refine fin4 _ ?_ ?_ ?_ ?_ <;> (obtain ⟨r, c⟩ := x; refine Prod.ext ?_ ?_ <;> simp only [nb, Fin.reduceAdd] <;> omega)
theorem nb_back3 (x : Cell) (s : Fin 4) : nb (nb x (s + 1)) (s + 3) = x := by
  revert s
  refine fin4 _ ?_ ?_ ?_ ?_ <;> (obtain ⟨r, c⟩ := x; refine Prod.ext ?_ ?_ <;> simp only [nb, Fin.reduceAdd] <;> omega)
theorem nb_back1 (x : Cell) (s : Fin 4) : nb (nb x (s + 3)) (s + 1) = x := by
  revert s
  refine fin4 _ ?_ ?_ ?_ ?_ <;> (obtain ⟨r, c⟩ := x; refine Prod.ext ?_ ?_ <;> simp only [nb, Fin.reduceAdd] <;> omega)
theorem nb_comm (x : Cell) (s t : Fin 4) : nb (nb x s) t = nb (nb x t) s := by
  revert s t
  refine fin4 _ ?_ ?_ ?_ ?_ <;> refine fin4 _ ?_ ?_ ?_ ?_ <;> (obtain ⟨r, c⟩ := x; refine Prod.ext ?_ ?_ <;> simp only [nb] <;> omega)
theorem f13 (s : Fin 4) : s + 1 + 3 = s := by revert s; decide
theorem f31 (s : Fin 4) : s + 3 + 1 = s := by revert s; decide
theorem f33 (s : Fin 4) : s + 3 + 3 = s + 2 := by revert s; decide
theorem f11 (s : Fin 4) : s + 1 + 1 = s + 2 := by revert s; decide
theorem f22 (s : Fin 4) : s + 2 + 2 = s := by revert s; decide
theorem f12 (s : Fin 4) : s + 1 + 2 = s + 3 := by revert s; decide
theorem f32 (s : Fin 4) : s + 3 + 2 = s + 1 := by revert s; decide
/-- a side of a cell, told with its cell: gone along with the cell at the right hand -/
abbrev Side := Cell × Fin 4
def Rim (S : Cell → Bool) (e : Side) : Prop := S e.1 = true ∧ S (nb e.1 e.2) = false
def succ (S : Cell → Bool) (e : Side) : Side :=
  if S (nb e.1 (e.2 + 1)) = false then (e.1, e.2 + 1)
  else if S (nb (nb e.1 (e.2 + 1)) e.2) = false then (nb e.1 (e.2 + 1), e.2)
  else (nb (nb e.1 (e.2 + 1)) e.2, e.2 + 3)
def pred (S : Cell → Bool) (e : Side) : Side :=
  if S (nb e.1 (e.2 + 3)) = false then (e.1, e.2 + 3)
  else if S (nb (nb e.1 (e.2 + 3)) e.2) = false then (nb e.1 (e.2 + 3), e.2)
  else (nb (nb e.1 (e.2 + 3)) e.2, e.2 + 1)
section
variable {S : Cell → Bool}
theorem nf {b : Bool} (h : ¬ b = false) : b = true := by cases b <;> simp_all
theorem succ_rim {e : Side} (h : Rim S e) : Rim S (succ S e) := by
  obtain ⟨x, s⟩ := e
  obtain ⟨h1, h2⟩ := h
  unfold succ
  dsimp only at *
  split
  · exact ⟨h1, by assumption⟩
  · rename_i a
    split
    · exact ⟨nf a, by assumption⟩
    · rename_i b
      refine ⟨nf b, ?_⟩
      show S (nb (nb (nb x (s + 1)) s) (s + 3)) = false
      rw [nb_comm x (s + 1) s, nb_back3]
      exact h2
theorem pred_rim {e : Side} (h : Rim S e) : Rim S (pred S e) := by
  obtain ⟨x, s⟩ := e
  obtain ⟨h1, h2⟩ := h
  unfold pred
  dsimp only at *
  split
  · exact ⟨h1, by assumption⟩
  · rename_i a
    split
    · exact ⟨nf a, by assumption⟩
    · rename_i b
      refine ⟨nf b, ?_⟩
      show S (nb (nb (nb x (s + 3)) s) (s + 1)) = false
      rw [nb_comm x (s + 3) s, nb_back1]
      exact h2
theorem tf {b : Bool} (h : b = true) : ¬ b = false := by simp [h]
theorem succ_pred {e : Side} (h : Rim S e) : succ S (pred S e) = e := by
  obtain ⟨x, s⟩ := e
  obtain ⟨h1, h2⟩ := h
  unfold pred
  dsimp only at *
  split
  · unfold succ
    dsimp only
    rw [f31, if_pos h2]
  · rename_i a
    split
    · unfold succ
      dsimp only
      rw [nb_back1, if_neg (tf h1), if_pos h2]
    · rename_i b
      unfold succ
      dsimp only
      have e1 : nb (nb (nb x (s + 3)) s) (s + 1 + 1) = nb x (s + 3) := by rw [f11]; exact nb_back _ s
      rw [e1, if_neg a, nb_back1, if_neg (tf h1), f13]
theorem pred_succ {e : Side} (h : Rim S e) : pred S (succ S e) = e := by
  obtain ⟨x, s⟩ := e
  obtain ⟨h1, h2⟩ := h
  unfold succ
  dsimp only at *
  split
  · unfold pred
    dsimp only
    rw [f13, if_pos h2]
  · rename_i a
    split
    · unfold pred
      dsimp only
      rw [nb_back3, if_neg (tf h1), if_pos h2]
    · rename_i b
      unfold pred
      dsimp only
      have e1 : nb (nb (nb x (s + 1)) s) (s + 3 + 3) = nb x (s + 1) := by rw [f33]; exact nb_back _ s
      rw [e1, if_neg a, nb_back3, if_neg (tf h1), f31]
theorem succ_inj {e f : Side} (he : Rim S e) (hf : Rim S f) (h : succ S e = succ S f) : e = f := by
  rw [← pred_succ he, ← pred_succ hf, h]
/-- where a side begins, where it ends -/
def tail (e : Side) : Int × Int :=
  match e.2 with
  | 0 => (e.1.1, e.1.2)
  | 1 => (e.1.1, e.1.2 + 1)
  | 2 => (e.1.1 + 1, e.1.2 + 1)
  | 3 => (e.1.1 + 1, e.1.2)
def head (e : Side) : Int × Int := tail (e.1, e.2 + 1)
theorem tail_succ (e : Side) : tail (succ S e) = head e := by
  obtain ⟨x, s⟩ := e
  unfold succ head
  dsimp only
  split
  · rfl
  · split
    · revert s
      refine fin4 _ ?_ ?_ ?_ ?_ <;> intros <;> (obtain ⟨r, c⟩ := x; refine Prod.ext ?_ ?_ <;> simp only [nb, tail, Fin.reduceAdd] <;> omega)
    · revert s
      refine fin4 _ ?_ ?_ ?_ ?_ <;> intros <;> (obtain ⟨r, c⟩ := x; refine Prod.ext ?_ ?_ <;> simp only [nb, tail, Fin.reduceAdd] <;> omega)
/-- the four cells round a point: above left a, above right nb a 1, below right nb (nb a 1) 2, below left nb a 2 -/
def Deg4 (S : Cell → Bool) (a : Cell) : Prop := S a = S (nb (nb a 1) 2) ∧ S (nb a 1) = S (nb a 2) ∧ S a ≠ S (nb a 1)
/-! ### even sets of sides -/
open Classical in
/-- whether the side between a cell and the one beside is in C -/
noncomputable def Kr (C : Side → Prop) (x : Cell) (s : Fin 4) : Bool := decide (C (x, s) ∨ C (nb x s, s + 2))
open Classical in
theorem kr_true {C : Side → Prop} {x : Cell} {s : Fin 4} : Kr C x s = true ↔ (C (x, s) ∨ C (nb x s, s + 2)) := by
  unfold Kr
  exact decide_eq_true_iff
theorem kr_false {C : Side → Prop} {x : Cell} {s : Fin 4} (h : ¬ (C (x, s) ∨ C (nb x s, s + 2))) : Kr C x s = false := by
  cases e : Kr C x s with
  | false => rfl
  | true => exact absurd (kr_true.mp e) h
theorem kr_sym (C : Side → Prop) (x : Cell) (s : Fin 4) : Kr C (nb x s) (s + 2) = Kr C x s := by
  unfold Kr
  congr 1
  rw [nb_back, f22]
  exact propext ⟨fun h => h.symm, fun h => h.symm⟩
def EvenAt (C : Side → Prop) (a : Cell) : Prop := ((Kr C a 1 ^^ Kr C (nb a 1) 2) ^^ (Kr C (nb a 2) 1 ^^ Kr C a 2)) = false
def Even (C : Side → Prop) : Prop := ∀ a, EvenAt C a
/-- a set of cells lies within so many rows and columns -/
def Within (h w : Int) (S : Cell → Bool) : Prop := ∀ x, S x = true → (0 ≤ x.1 ∧ x.1 < h) ∧ (0 ≤ x.2 ∧ x.2 < w)
def inG (h w : Int) (x : Cell) : Prop := (0 ≤ x.1 ∧ x.1 < h) ∧ (0 ≤ x.2 ∧ x.2 < w)
/-- parities along a row -/
noncomputable def par (C : Side → Prop) (r : Int) : Nat → Bool
  | 0 => false
  | n + 1 => par C r n ^^ Kr C (r, (n : Int) - 1) 1
noncomputable def pot (C : Side → Prop) (x : Cell) : Bool := par C x.1 (x.2 + 1).toNat
theorem kr_out {C : Side → Prop} (hC : ∀ e, C e → Rim S e) {x : Cell} {s : Fin 4} (h1 : S x = false) (h2 : S (nb x s) = false) : Kr C x s = false := by
  refine kr_false fun h => ?_
  rcases h with h | h
  · have := (hC _ h).1
    rw [h1] at this
    cases this
  · have := (hC _ h).1
    rw [h2] at this
    cases this
theorem kr_in {C : Side → Prop} (hC : ∀ e, C e → Rim S e) {x : Cell} {s : Fin 4} (h1 : S x = true) (h2 : S (nb x s) = true) : Kr C x s = false := by
  refine kr_false fun h => ?_
  rcases h with h | h
  · have := (hC _ h).2
    dsimp only at this
    rw [h2] at this
    cases this
  · have := (hC _ h).2
    dsimp only at this
    rw [nb_back, h1] at this
    cases this
theorem out_false {h w : Int} (hS : Within h w S) {x : Cell} (hx : ¬ inG h w x) : S x = false := by
  cases hs : S x with
  | false => rfl
  | true => exact absurd (hS x hs) hx
variable {C : Side → Prop} {h w : Int}
theorem pot_neg {r c : Int} (hc : c < 0) : pot C (r, c) = false := by
  unfold pot
  have : ((r, c).2 + 1).toNat = 0 := by show (c + 1).toNat = 0; omega
  rw [this]
  rfl
theorem pot_h (hS : Within h w S) (hC : ∀ e, C e → Rim S e) (r c : Int) : (pot C (r, c) ^^ pot C (r, c - 1)) = Kr C (r, c - 1) 1 := by
  by_cases hc : c < 0
  · rw [pot_neg hc, pot_neg (by omega : c - 1 < 0)]
    refine (kr_out hC (out_false hS ?_) (out_false hS ?_)).symm
    · unfold inG; dsimp only; omega
    · unfold inG nb; dsimp only; omega
  · unfold pot
    obtain ⟨n, hn⟩ : ∃ n : Nat, c = (n : Int) := ⟨c.toNat, by omega⟩
    subst hn
    have e1 : (((r, (n : Int)) : Cell).2 + 1).toNat = n + 1 := by show ((n : Int) + 1).toNat = n + 1; omega
    have e2 : (((r, (n : Int) - 1) : Cell).2 + 1).toNat = n := by show ((n : Int) - 1 + 1).toNat = n; omega
    rw [e1, e2]
    show ((par C r n ^^ Kr C (r, (n : Int) - 1) 1) ^^ par C r n) = _
    cases par C r n <;> cases Kr C (r, (n : Int) - 1) 1 <;> rfl
theorem par_v (hS : Within h w S) (hC : ∀ e, C e → Rim S e) (hE : Even C) (r : Int) : ∀ n : Nat, (par C r n ^^ par C (r - 1) n) = Kr C (r - 1, (n : Int) - 1) 2
  | 0 => by
    refine (kr_out hC (out_false hS ?_) (out_false hS ?_)).symm
    · unfold inG; dsimp only; omega
    · unfold inG nb; dsimp only; omega
  | n + 1 => by
    have ih := par_v hS hC hE r n
    have ev := hE (r - 1, (n : Int) - 1)
    unfold EvenAt at ev
    have e1 : nb (r - 1, (n : Int) - 1) 1 = (r - 1, (n : Int)) := by refine Prod.ext ?_ ?_ <;> simp only [nb] <;> omega
    have e2 : nb (r - 1, (n : Int) - 1) 2 = (r, (n : Int) - 1) := by refine Prod.ext ?_ ?_ <;> simp only [nb] <;> omega
    have e3 : (((n + 1 : Nat) : Int) - 1) = (n : Int) := by omega
    rw [e1, e2] at ev
    rw [e3]
    show ((par C r n ^^ Kr C (r, (n : Int) - 1) 1) ^^ (par C (r - 1) n ^^ Kr C (r - 1, (n : Int) - 1) 1)) = _
    revert ih ev
    cases par C r n <;> cases par C (r - 1) n <;> cases Kr C (r, (n : Int) - 1) 1 <;> cases Kr C (r - 1, (n : Int) - 1) 1 <;> cases Kr C (r - 1, (n : Int)) 2 <;> cases Kr C (r - 1, (n : Int) - 1) 2 <;> decide
theorem pot_v (hS : Within h w S) (hC : ∀ e, C e → Rim S e) (hE : Even C) (r c : Int) : (pot C (r, c) ^^ pot C (r - 1, c)) = Kr C (r - 1, c) 2 := by
  by_cases hc : c < 0
  · rw [pot_neg hc, pot_neg hc]
    refine (kr_out hC (out_false hS ?_) (out_false hS ?_)).symm
    · unfold inG; dsimp only; omega
    · unfold inG nb; dsimp only; omega
  · have := par_v hS hC hE r (c + 1).toNat
    rw [show (((c + 1).toNat : Nat) : Int) - 1 = c by omega] at this
    exact this
theorem pot_nb (hS : Within h w S) (hC : ∀ e, C e → Rim S e) (hE : Even C) (x : Cell) (s : Fin 4) : (pot C x ^^ pot C (nb x s)) = Kr C x s := by
  obtain ⟨r, c⟩ := x
  revert s
  refine fin4 _ ?_ ?_ ?_ ?_
  · have := pot_v hS hC hE r c
    rw [← kr_sym C (r, c) 0]
    exact this
  · have := pot_h hS hC r (c + 1)
    rw [show c + 1 - 1 = c by omega] at this
    rw [← this, Bool.xor_comm]
    rfl
  · have := pot_v hS hC hE (r + 1) c
    rw [show r + 1 - 1 = r by omega] at this
    rw [← this, Bool.xor_comm]
    rfl
  · have := pot_h hS hC r c
    rw [← kr_sym C (r, c) 3]
    exact this
theorem par_row (hC : ∀ e, C e → Rim S e) (r : Int) (hr : ∀ c, S (r, c) = false) : ∀ n : Nat, par C r n = false
  | 0 => rfl
  | n + 1 => by
    show (par C r n ^^ Kr C (r, (n : Int) - 1) 1) = false
    rw [par_row hC r hr n, kr_out hC (hr _) (show S (nb (r, (n : Int) - 1) 1) = false from hr _)]
    rfl
theorem pot_row (hC : ∀ e, C e → Rim S e) {r : Int} (hr : ∀ c, S (r, c) = false) (c : Int) : pot C (r, c) = false := par_row hC r hr _
theorem pot_out (hS : Within h w S) (hC : ∀ e, C e → Rim S e) (hE : Even C) {x : Cell} (hx : ¬ inG h w x) : pot C x = false := by
  obtain ⟨r, c⟩ := x
  by_cases hc : c < 0
  · exact pot_neg hc
  by_cases hr : r < 0 ∨ h ≤ r
  · refine pot_row hC (fun c' => out_false hS ?_) c
    unfold inG
    dsimp only
    omega
  have hw : w ≤ c := by
    unfold inG at hx
    dsimp only at hx
    omega
  have key : ∀ n : Nat, pot C ((n : Int) - 1, c) = false := by
    intro n
    induction n with
    | zero =>
      refine pot_row hC (fun c' => out_false hS ?_) c
      unfold inG
      dsimp only
      omega
    | succ n ih =>
      have := pot_v hS hC hE (((n + 1 : Nat) : Int) - 1) c
      rw [show (((n + 1 : Nat) : Int) - 1) - 1 = (n : Int) - 1 by omega, ih] at this
      rw [kr_out hC (out_false hS ?_) (out_false hS ?_)] at this
      · revert this
        cases pot C (((n + 1 : Nat) : Int) - 1, c) <;> simp
      · unfold inG; dsimp only; omega
      · unfold inG nb; dsimp only; omega
  have := key (r + 1).toNat
  rw [show (((r + 1).toNat : Nat) : Int) - 1 = r by omega] at this
  exact this
/-! ### hanging together -/
inductive Reach (A : Cell → Prop) : Cell → Cell → Prop
  | refl {x : Cell} (h : A x) : Reach A x x
  | step {x y : Cell} (s : Fin 4) (h : Reach A x y) (hy : A (nb y s)) : Reach A x (nb y s)
theorem Reach.start {A : Cell → Prop} {x y : Cell} (h : Reach A x y) : A x := by
  induction h with
  | refl h => exact h
  | step s h hy ih => exact ih
theorem Reach.stop {A : Cell → Prop} {x y : Cell} (h : Reach A x y) : A y := by
  cases h with
  | refl h => exact h
  | step s h hy => exact hy
/-- what is none of the cells, within the grid -/
def Rest (h w : Int) (S : Cell → Bool) (x : Cell) : Prop := inG h w x ∧ S x = false
def Edge (h w : Int) (x : Cell) : Prop := ∃ s, ¬ inG h w (nb x s)
structure Good (h w : Int) (S : Cell → Bool) : Prop where
  one : ∀ x y, S x = true → S y = true → Reach (fun z => S z = true) x y
  out : ∀ x, Rest h w S x → ∃ y, Reach (Rest h w S) x y ∧ Edge h w y
/-- no even set of rim sides but none and all -/
def Min (S : Cell → Bool) : Prop := ∀ C : Side → Prop, (∀ e, C e → Rim S e) → Even C → (∃ e, C e) → ∀ e, Rim S e → C e
theorem xor_eq {a b : Bool} (h : (a ^^ b) = false) : a = b := by cases a <;> cases b <;> simp_all
theorem good_min (hS : Within h w S) (g : Good h w S) : Min S := by
  intro C hC hE ⟨e0, he0⟩ e he
  have T := pot_nb hS hC hE
  have onS : ∀ x y, Reach (fun z => S z = true) x y → pot C x = pot C y := by
    intro x y hr
    induction hr with
    | refl h => rfl
    | @step y s h hy ih =>
      have t := T y s
      rw [kr_in hC h.stop hy] at t
      rw [ih]
      exact xor_eq t
  have onR : ∀ x y, Reach (Rest h w S) x y → pot C x = pot C y := by
    intro x y hr
    induction hr with
    | refl h => rfl
    | @step y s h hy ih =>
      have t := T y s
      rw [kr_out hC h.stop.2 hy.2] at t
      rw [ih]
      exact xor_eq t
  have off : ∀ x, S x = false → pot C x = false := by
    intro x hx
    by_cases hg : inG h w x
    · obtain ⟨y, hy, s, hs⟩ := g.out x ⟨hg, hx⟩
      rw [onR x y hy]
      have t := T y s
      rw [kr_out hC hy.stop.2 (out_false hS hs), pot_out hS hC hE hs] at t
      exact xor_eq t
    · exact pot_out hS hC hE hg
  have r0 := hC e0 he0
  have p0 : pot C e0.1 = true := by
    have t := T e0.1 e0.2
    rw [off _ r0.2] at t
    have k : Kr C e0.1 e0.2 = true := kr_true.mpr (.inl he0)
    rw [k] at t
    revert t
    cases pot C e0.1 <;> simp
  have p1 : pot C e.1 = true := by rw [← onS e0.1 e.1 (g.one _ _ r0.1 he.1)]; exact p0
  have t := T e.1 e.2
  rw [off _ he.2, p1] at t
  have k : Kr C e.1 e.2 = true := by rw [← t]; rfl
  rcases kr_true.mp k with z | z
  · exact z
  · have := (hC _ z).1
    dsimp only at this
    rw [he.2] at this
    cases this
theorem even_of {f : Cell → Bool} (hk : ∀ x s, Kr C x s = (f x ^^ f (nb x s))) : Even C := by
  intro a
  unfold EvenAt
  rw [hk, hk, hk, hk, nb_comm a 2 1]
  cases f a <;> cases f (nb a 1) <;> cases f (nb (nb a 1) 2) <;> cases f (nb a 2) <;> rfl
open Classical in
theorem min_one (hS : Within h w S) (m : Min S) {x0 : Cell} (h0 : S x0 = true) : ∀ y, S y = true → Reach (fun z => S z = true) x0 y := by
  have A := fun y => Reach (fun z => S z = true) x0 y
  have go : ∀ y s, Reach (fun z => S z = true) x0 y → S (nb y s) = true → Reach (fun z => S z = true) x0 (nb y s) := fun y s h1 h2 => .step s h1 h2
  have sub : ∀ e : Side, (Reach (fun z => S z = true) x0 e.1 ∧ ¬ Reach (fun z => S z = true) x0 (nb e.1 e.2)) → Rim S e := fun e he => by
    refine ⟨he.1.stop, ?_⟩
    cases hs : S (nb e.1 e.2) with
    | false => rfl
    | true => exact absurd (go _ _ he.1 hs) he.2
  have ev : Even (fun e : Side => Reach (fun z => S z = true) x0 e.1 ∧ ¬ Reach (fun z => S z = true) x0 (nb e.1 e.2)) := by
    refine even_of (f := fun y => decide (Reach (fun z => S z = true) x0 y)) fun x s => ?_
    rw [Bool.eq_iff_iff, kr_true]
    dsimp only
    rw [nb_back]
    by_cases a : Reach (fun z => S z = true) x0 x <;> by_cases b : Reach (fun z => S z = true) x0 (nb x s) <;> simp [a, b]
  have ne : ∃ e : Side, Reach (fun z => S z = true) x0 e.1 ∧ ¬ Reach (fun z => S z = true) x0 (nb e.1 e.2) := by
    have key : ∀ (n : Nat) (x : Cell), x.2 < (n : Int) → Reach (fun z => S z = true) x0 x → ∃ e : Side, Reach (fun z => S z = true) x0 e.1 ∧ ¬ Reach (fun z => S z = true) x0 (nb e.1 e.2) := by
      intro n
      induction n with
      | zero =>
        intro x hx hr
        have := hS x hr.stop
        omega
      | succ n ih =>
        intro x hx hr
        by_cases hl : Reach (fun z => S z = true) x0 (nb x 3)
        · refine ih (nb x 3) ?_ hl
          simp only [nb]
          omega
        · exact ⟨(x, 3), hr, hl⟩
    exact key (x0.2 + 1).toNat x0 (by omega) (.refl h0)
  have all := m _ sub ev ne
  have key : ∀ (n : Nat) (y : Cell), y.2 < (n : Int) → S y = true → Reach (fun z => S z = true) x0 y := by
    intro n
    induction n with
    | zero =>
      intro y hy hs
      have := hS y hs
      omega
    | succ n ih =>
      intro y hy hs
      cases hl : S (nb y 3) with
      | false => exact (all (y, 3) ⟨hs, hl⟩).1
      | true =>
        have := ih (nb y 3) (by simp only [nb]; omega) hl
        have w := Reach.step 1 this (by rw [show nb (nb y 3) 1 = y from nb_back y 3]; exact hs)
        rw [show nb (nb y 3) 1 = y from nb_back y 3] at w
        exact w
  exact fun y hy => key (y.2 + 1).toNat y (by omega) hy
open Classical in
theorem min_out (hS : Within h w S) (m : Min S) (b : Cell) (hb : Rest h w S b) : ∃ y, Reach (Rest h w S) b y ∧ Edge h w y := by
  refine Classical.byContradiction fun hn => ?_
  have ne : ∀ y, Reach (Rest h w S) b y → ∀ s, inG h w (nb y s) := fun y hy s => Classical.byContradiction fun z => hn ⟨y, hy, s, z⟩
  have nx : ∀ y s, Reach (Rest h w S) b y → ¬ Reach (Rest h w S) b (nb y s) → S (nb y s) = true := fun y s hy hs => by
    cases e : S (nb y s) with
    | true => rfl
    | false => exact absurd (Reach.step s hy ⟨ne y hy s, e⟩) hs
  have sub : ∀ e : Side, (S e.1 = true ∧ Reach (Rest h w S) b (nb e.1 e.2)) → Rim S e := fun e he => ⟨he.1, he.2.stop.2⟩
  have ev : Even (fun e : Side => S e.1 = true ∧ Reach (Rest h w S) b (nb e.1 e.2)) := by
    refine even_of (f := fun y => decide (Reach (Rest h w S) b y)) fun x s => ?_
    rw [Bool.eq_iff_iff, kr_true]
    dsimp only
    rw [nb_back]
    by_cases p : Reach (Rest h w S) b x <;> by_cases q : Reach (Rest h w S) b (nb x s)
    · have s1 := p.stop.2
      have s2 := q.stop.2
      simp [p, q, s1, s2]
    · have s2 := nx x s p q
      simp [p, q, s2]
    · have s1 : S x = true := by
        have := nx (nb x s) (s + 2) q (by rw [nb_back]; exact p)
        rw [nb_back] at this
        exact this
      simp [p, q, s1]
    · simp [p, q]
  have nonem : ∃ e : Side, S e.1 = true ∧ Reach (Rest h w S) b (nb e.1 e.2) := by
    have key : ∀ (n : Nat) (x : Cell), x.2 < (n : Int) → Reach (Rest h w S) b x → ∃ e : Side, S e.1 = true ∧ Reach (Rest h w S) b (nb e.1 e.2) := by
      intro n
      induction n with
      | zero =>
        intro x hx hr
        have := hr.stop.1.2
        omega
      | succ n ih =>
        intro x hx hr
        by_cases hl : Reach (Rest h w S) b (nb x 3)
        · refine ih (nb x 3) ?_ hl
          simp only [nb]
          omega
        · refine ⟨(nb x 3, 1), nx x 3 hr hl, ?_⟩
          rw [show nb (nb x 3) 1 = x from nb_back x 3]
          exact hr
    exact key (b.2 + 1).toNat b (by omega) (.refl hb)
  have all := m _ sub ev nonem
  obtain ⟨e, he, _⟩ := nonem
  have up : ∀ (n : Nat) (x : Cell), x.1 < (n : Int) → S x = true ∨ Reach (Rest h w S) b x → False := by
    intro n
    induction n with
    | zero =>
      intro x hx hr
      rcases hr with hr | hr
      · have := (hS x hr).1
        omega
      · have := hr.stop.1.1
        omega
    | succ n ih =>
      intro x hx hr
      refine ih (nb x 0) (by simp only [nb]; omega) ?_
      rcases hr with hr | hr
      · cases hs : S (nb x 0) with
        | true => exact .inl rfl
        | false => exact .inr (all (x, 0) ⟨hr, hs⟩).2
      · by_cases hs : Reach (Rest h w S) b (nb x 0)
        · exact .inr hs
        · exact .inl (nx x 0 hr hs)
  exact up (e.1.1 + 1).toNat e.1 (by omega) (.inl he)
theorem min_good (hS : Within h w S) (m : Min S) : Good h w S := ⟨fun x y hx hy => min_one hS m hx y hy, fun x hx => min_out hS m x hx⟩
end
end Sd.J

/-! The ring theorem, second part: orbits of the walk; no point met twice. -/
namespace Sd.J
theorem least {P : Nat → Prop} (h : ∃ n, P n) : ∃ n, P n ∧ ∀ m, m < n → ¬ P m := by
  obtain ⟨n, hn⟩ := h
  induction n using Nat.strongRecOn with
  | _ n ih =>
    by_cases hm : ∃ m, m < n ∧ P m
    · obtain ⟨m, h1, h2⟩ := hm
      exact ih m h1 h2
    · exact ⟨n, hn, fun m h1 h2 => hm ⟨m, h1, h2⟩⟩
theorem nodup_len {α : Type} [DecidableEq α] : ∀ {l m : List α}, l.Nodup → (∀ o ∈ l, o ∈ m) → l.length ≤ m.length
  | [], m, _, _ => Nat.zero_le _
  | a :: r, m, hn, hs => by
    obtain ⟨h1, h2⟩ := List.nodup_cons.mp hn
    have ha := hs a List.mem_cons_self
    have := nodup_len (m := m.erase a) h2 fun o ho => by
      have ne : o ≠ a := fun e => h1 (e ▸ ho)
      exact (List.mem_erase_of_ne ne).mpr (hs o (List.mem_cons_of_mem _ ho))
    rw [List.length_erase_of_mem ha] at this
    have : 0 < m.length := List.length_pos_of_mem ha
    rw [List.length_cons]
    omega
section
variable {S : Cell → Bool} {C : Side → Prop}
open Classical in
noncomputable def cb (C : Side → Prop) (e : Side) : Bool := decide (C e)
open Classical in
theorem cb_true {e : Side} : cb C e = true ↔ C e := by
  unfold cb
  exact decide_eq_true_iff
theorem cb_eq {e f : Side} (h : C e ↔ C f) : cb C e = cb C f := by
  rw [Bool.eq_iff_iff, cb_true, cb_true]
  exact h
theorem kr_val (hC : ∀ e, C e → Rim S e) (x : Cell) (s : Fin 4) : Kr C x s = (if S x = true then (if S (nb x s) = true then false else cb C (x, s)) else (if S (nb x s) = true then cb C (nb x s, s + 2) else false)) := by
  by_cases h1 : S x = true
  · by_cases h2 : S (nb x s) = true
    · rw [if_pos h1, if_pos h2]
      exact kr_in hC h1 h2
    · rw [if_pos h1, if_neg h2]
      rw [Bool.eq_iff_iff, kr_true, cb_true]
      refine ⟨fun h => h.elim id fun z => ?_, .inl⟩
      exact absurd (hC _ z).1 h2
  · by_cases h2 : S (nb x s) = true
    · rw [if_neg h1, if_pos h2]
      rw [Bool.eq_iff_iff, kr_true, cb_true]
      refine ⟨fun h => h.elim (fun z => ?_) id, .inr⟩
      exact absurd (hC _ z).1 h1
    · rw [if_neg h1, if_neg h2]
      exact kr_out hC (by cases e : S x <;> simp_all) (by cases e : S (nb x s) <;> simp_all)
/-- the four sides that end at the point below right of a: of a, of the cells beside -/
def InAt (C : Side → Prop) (S : Cell → Bool) (a : Cell) : Prop :=
  (S a = true → S (nb a 1) = false → cb C (a, 1) = cb C (succ S (a, 1))) ∧ (S (nb a 1) = true → S (nb (nb a 1) 2) = false → cb C (nb a 1, 2) = cb C (succ S (nb a 1, 2))) ∧
  (S (nb (nb a 1) 2) = true → S (nb a 2) = false → cb C (nb (nb a 1) 2, 3) = cb C (succ S (nb (nb a 1) 2, 3))) ∧ (S (nb a 2) = true → S a = false → cb C (nb a 2, 0) = cb C (succ S (nb a 2, 0)))
theorem nb_c3 (a : Cell) : nb (nb (nb a 1) 2) 3 = nb a 2 := by
  refine Prod.ext ?_ ?_ <;> simp only [nb] <;> omega
theorem nb_c0 (a : Cell) : nb (nb (nb a 1) 2) 0 = nb a 1 := by
  refine Prod.ext ?_ ?_ <;> simp only [nb] <;> omega
theorem nb_b3 (a : Cell) : nb (nb a 1) 3 = a := by
  refine Prod.ext ?_ ?_ <;> simp only [nb] <;> omega
theorem nb_d1 (a : Cell) : nb (nb a 2) 1 = nb (nb a 1) 2 := by
  refine Prod.ext ?_ ?_ <;> simp only [nb] <;> omega
theorem nb_d0 (a : Cell) : nb (nb a 2) 0 = a := by
  refine Prod.ext ?_ ?_ <;> simp only [nb] <;> omega
theorem nb_a2 (a : Cell) : nb a 2 = nb a 2 := rfl
theorem succ_a (a : Cell) : succ S (a, 1) = if S (nb a 2) = false then (a, 2) else if S (nb (nb a 1) 2) = false then (nb a 2, 1) else (nb (nb a 1) 2, 0) := by
  show (if S (nb a 2) = false then ((a, 2) : Side) else if S (nb (nb a 2) 1) = false then (nb a 2, 1) else (nb (nb a 2) 1, 0)) = _
  rw [nb_d1]
theorem succ_b (a : Cell) : succ S (nb a 1, 2) = if S a = false then (nb a 1, 3) else if S (nb a 2) = false then (a, 2) else (nb a 2, 1) := by
  show (if S (nb (nb a 1) 3) = false then ((nb a 1, 3) : Side) else if S (nb (nb (nb a 1) 3) 2) = false then (nb (nb a 1) 3, 2) else (nb (nb (nb a 1) 3) 2, 1)) = _
  rw [nb_b3]
theorem succ_c (a : Cell) : succ S (nb (nb a 1) 2, 3) = if S (nb a 1) = false then (nb (nb a 1) 2, 0) else if S a = false then (nb a 1, 3) else (a, 2) := by
  show (if S (nb (nb (nb a 1) 2) 0) = false then ((nb (nb a 1) 2, 0) : Side) else if S (nb (nb (nb (nb a 1) 2) 0) 3) = false then (nb (nb (nb a 1) 2) 0, 3) else (nb (nb (nb (nb a 1) 2) 0) 3, 2)) = _
  rw [nb_c0, nb_b3]
theorem succ_d (a : Cell) : succ S (nb a 2, 0) = if S (nb (nb a 1) 2) = false then (nb a 2, 1) else if S (nb a 1) = false then (nb (nb a 1) 2, 0) else (nb a 1, 3) := by
  show (if S (nb (nb a 2) 1) = false then ((nb a 2, 1) : Side) else if S (nb (nb (nb a 2) 1) 0) = false then (nb (nb a 2) 1, 0) else (nb (nb (nb a 2) 1) 0, 3)) = _
  rw [nb_d1, nb_c0]
theorem even_eq (hC : ∀ e, C e → Rim S e) (a : Cell) : EvenAt C a ↔
    (((if S a = true then (if S (nb a 1) = true then false else cb C (a, 1)) else (if S (nb a 1) = true then cb C (nb a 1, 3) else false)) ^^
      (if S (nb a 1) = true then (if S (nb (nb a 1) 2) = true then false else cb C (nb a 1, 2)) else (if S (nb (nb a 1) 2) = true then cb C (nb (nb a 1) 2, 0) else false))) ^^
     ((if S (nb a 2) = true then (if S (nb (nb a 1) 2) = true then false else cb C (nb a 2, 1)) else (if S (nb (nb a 1) 2) = true then cb C (nb (nb a 1) 2, 3) else false)) ^^
      (if S a = true then (if S (nb a 2) = true then false else cb C (a, 2)) else (if S (nb a 2) = true then cb C (nb a 2, 0) else false)))) = false := by
  unfold EvenAt
  rw [kr_val hC a 1, kr_val hC (nb a 1) 2, kr_val hC (nb a 2) 1, kr_val hC a 2, nb_d1]
  rfl
theorem even_closed (hC : ∀ e, C e → Rim S e) {a : Cell} (h : InAt C S a) : EvenAt C a := by
  rw [even_eq hC]
  obtain ⟨h1, h2, h3, h4⟩ := h
  rw [succ_a] at h1
  rw [succ_b] at h2
  rw [succ_c] at h3
  rw [succ_d] at h4
  revert h1 h2 h3 h4
  cases S a <;> cases S (nb a 1) <;> cases S (nb (nb a 1) 2) <;> cases S (nb a 2) <;> simp <;> intros <;> simp_all
theorem closed_even (hC : ∀ e, C e → Rim S e) {a : Cell} (nd : ¬ Deg4 S a) (h : EvenAt C a) : InAt C S a := by
  rw [even_eq hC] at h
  unfold InAt
  rw [succ_a, succ_b, succ_c, succ_d]
  unfold Deg4 at nd
  revert h nd
  cases S a <;> cases S (nb a 1) <;> cases S (nb (nb a 1) 2) <;> cases S (nb a 2) <;> simp <;> exact fun h => h.symm
end
/-! ### orbits -/
def it (S : Cell → Bool) (e : Side) : Nat → Side
  | 0 => e
  | n + 1 => succ S (it S e n)
section
variable {S : Cell → Bool} {h w : Int}
theorem it_rim {e : Side} (he : Rim S e) : ∀ n, Rim S (it S e n)
  | 0 => he
  | n + 1 => succ_rim (it_rim he n)
theorem it_add (e : Side) (m : Nat) : ∀ n, it S e (m + n) = it S (it S e m) n
  | 0 => rfl
  | n + 1 => congrArg (succ S) (it_add e m n)
theorem it_back {e : Side} (he : Rim S e) : ∀ (i j : Nat), it S e i = it S e (i + j) → e = it S e j
  | 0, j, h => by rw [Nat.zero_add] at h; exact h
  | i + 1, j, h => by
    refine it_back he i j (succ_inj (it_rim he i) (it_rim he (i + j)) ?_)
    rw [show i + 1 + j = i + j + 1 by omega] at h
    exact h
/-- all sides of all cells of the grid -/
def gridSides (h w : Nat) : List Side := ((List.range h).map fun r => (List.range w).map fun c => ((List.range 4).map fun s => ((((r : Nat) : Int), ((c : Nat) : Int)), Fin.ofNat 4 s))).flatten.flatten
theorem mem_gridSides {h w : Nat} {e : Side} (he : inG h w e.1) : e ∈ gridSides h w := by
  obtain ⟨⟨r, c⟩, s⟩ := e
  obtain ⟨⟨h1, h2⟩, h3, h4⟩ := he
  dsimp only at h1 h2 h3 h4
  unfold gridSides
  simp only [List.mem_flatten, List.mem_map, List.mem_range]
  refine ⟨(List.range 4).map fun s => (((r.toNat : Int), (c.toNat : Int)), Fin.ofNat 4 s), ⟨(List.range w).map fun c => ((List.range 4).map fun s => (((r.toNat : Int), ((c : Nat) : Int)), Fin.ofNat 4 s)), ⟨r.toNat, by omega, rfl⟩, ?_⟩, ?_⟩
  · simp only [List.mem_map, List.mem_range]
    exact ⟨c.toNat, by omega, rfl⟩
  · simp only [List.mem_map, List.mem_range]
    refine ⟨s.val, s.isLt, ?_⟩
    have e1 : ((r.toNat : Nat) : Int) = r := by omega
    have e2 : ((c.toNat : Nat) : Int) = c := by omega
    rw [e1, e2]
    congr 1
    exact Fin.ext (Nat.mod_eq_of_lt s.isLt)
theorem period {h w : Nat} (hS : Within h w S) {e : Side} (he : Rim S e) : ∃ n, 0 < n ∧ it S e n = e := by
  refine Classical.byContradiction fun hn => ?_
  have ne : ∀ n, 0 < n → it S e n ≠ e := fun n h1 h2 => hn ⟨n, h1, h2⟩
  have nd : ((List.range ((gridSides h w).length + 1)).map (it S e)).Nodup := by
    unfold List.Nodup
    rw [List.pairwise_map]
    refine List.Pairwise.imp (fun {a b} hab z => ?_) List.pairwise_lt_range
    have hb : b = a + (b - a) := by omega
    rw [hb] at z
    exact ne (b - a) (by omega) (it_back he a (b - a) z).symm
  have := nodup_len (m := gridSides h w) nd fun o ho => by
    obtain ⟨i, _, rfl⟩ := List.mem_map.mp ho
    exact mem_gridSides (hS _ (it_rim he i).1)
  rw [List.length_map, List.length_range] at this
  omega
theorem it_pred {h w : Nat} (hS : Within h w S) {e : Side} (he : Rim S e) {f : Side} (hf : Rim S f) {i : Nat} (hi : succ S f = it S e i) : ∃ j, f = it S e j := by
  cases i with
  | succ i => exact ⟨i, succ_inj hf (it_rim he i) hi⟩
  | zero =>
    obtain ⟨n, n0, hn⟩ := period hS he
    refine ⟨n - 1, succ_inj hf (it_rim he _) ?_⟩
    rw [hi]
    show e = succ S (it S e (n - 1))
    have : it S e (n - 1 + 1) = succ S (it S e (n - 1)) := rfl
    rw [← this, show n - 1 + 1 = n by omega, hn]
def OneOrbit (S : Cell → Bool) : Prop := ∀ e f, Rim S e → Rim S f → ∃ i, f = it S e i
theorem min_orbit {h w : Nat} (hS : Within h w S) (m : Min S) : OneOrbit S := by
  intro e f he hf
  have cl : ∀ g, Rim S g → ((∃ i, g = it S e i) ↔ ∃ i, succ S g = it S e i) := fun g hg => ⟨fun ⟨i, hi⟩ => ⟨i + 1, by rw [hi]; rfl⟩, fun ⟨i, hi⟩ => it_pred hS he hg hi⟩
  refine m (fun g => ∃ i, g = it S e i) (fun g ⟨i, hi⟩ => by rw [hi]; exact it_rim he i) (fun a => ?_) ⟨e, 0, rfl⟩ f hf
  refine even_closed (S := S) (fun g ⟨i, hi⟩ => by rw [hi]; exact it_rim he i) ⟨fun h1 h2 => cb_eq (cl _ ⟨h1, h2⟩), fun h1 h2 => cb_eq (cl _ ⟨h1, h2⟩), fun h1 h2 => cb_eq (cl _ ⟨h1, ?_⟩), fun h1 h2 => cb_eq (cl _ ⟨h1, ?_⟩)⟩
  · show S (nb (nb (nb a 1) 2) 3) = false
    rw [nb_c3]
    exact h2
  · show S (nb (nb a 2) 0) = false
    rw [nb_d0]
    exact h2
/-- a side that begins (ends) at the point below right of a -/
theorem out_of {a : Cell} {e : Side} (ht : tail e = (a.1 + 1, a.2 + 1)) : e = (a, 2) ∨ e = (nb a 1, 3) ∨ e = (nb (nb a 1) 2, 0) ∨ e = (nb a 2, 1) := by
  obtain ⟨⟨r, c⟩, s⟩ := e
  obtain ⟨ar, ac⟩ := a
  revert ht
  revert s
  refine fin4 _ ?_ ?_ ?_ ?_ <;> intro ht <;> simp only [tail, Prod.mk.injEq] at ht
  · refine .inr (.inr (.inl ?_))
    simp only [nb, Prod.mk.injEq, and_true]
    omega
  · refine .inr (.inr (.inr ?_))
    simp only [nb, Prod.mk.injEq, and_true]
    omega
  · refine .inl ?_
    simp only [Prod.mk.injEq, and_true]
    omega
  · refine .inr (.inl ?_)
    simp only [nb, Prod.mk.injEq, and_true]
    omega
theorem in_of {a : Cell} {e : Side} (ht : head e = (a.1 + 1, a.2 + 1)) : e = (a, 1) ∨ e = (nb a 1, 2) ∨ e = (nb (nb a 1) 2, 3) ∨ e = (nb a 2, 0) := by
  obtain ⟨⟨r, c⟩, s⟩ := e
  obtain ⟨ar, ac⟩ := a
  revert ht
  revert s
  refine fin4 _ ?_ ?_ ?_ ?_ <;> intro ht <;> simp only [head, tail, Fin.reduceAdd, Prod.mk.injEq] at ht
  · refine .inr (.inr (.inr ?_))
    simp only [nb, Prod.mk.injEq, and_true]
    omega
  · refine .inl ?_
    simp only [Prod.mk.injEq, and_true]
    omega
  · refine .inr (.inl ?_)
    simp only [nb, Prod.mk.injEq, and_true]
    omega
  · refine .inr (.inr (.inl ?_))
    simp only [nb, Prod.mk.injEq, and_true]
    omega
theorem head_a (a : Cell) : head (a, 1) = (a.1 + 1, a.2 + 1) := by simp only [head, tail, Fin.reduceAdd]
theorem head_b (a : Cell) : head (nb a 1, 2) = (a.1 + 1, a.2 + 1) := by simp only [head, tail, nb, Fin.reduceAdd]
theorem head_c (a : Cell) : head (nb (nb a 1) 2, 3) = (a.1 + 1, a.2 + 1) := by simp only [head, tail, nb, Fin.reduceAdd]
theorem head_d (a : Cell) : head (nb a 2, 0) = (a.1 + 1, a.2 + 1) := by simp only [head, tail, nb, Fin.reduceAdd]
theorem tail_a (a : Cell) : tail (a, 2) = (a.1 + 1, a.2 + 1) := by simp only [tail]
theorem tail_b (a : Cell) : tail (nb a 1, 3) = (a.1 + 1, a.2 + 1) := by simp only [tail, nb]
theorem tail_c (a : Cell) : tail (nb (nb a 1) 2, 0) = (a.1 + 1, a.2 + 1) := by simp only [tail, nb]
theorem tail_d (a : Cell) : tail (nb a 2, 1) = (a.1 + 1, a.2 + 1) := by simp only [tail, nb]
/-- the way from e back to the point where it begins, even but for what is shown there -/
theorem arc_even {h w : Nat} (hS : Within h w S) {e : Side} (he : Rim S e) {a : Cell} (ha : tail e = (a.1 + 1, a.2 + 1)) {k : Nat} (k0 : 0 < k) (hk : tail (it S e k) = tail e) (hm : ∀ m, m < k → ¬ (0 < m ∧ tail (it S e m) = tail e))
    (at_ : EvenAt (fun g => ∃ i, i < k ∧ g = it S e i) a) : Even (fun g => ∃ i, i < k ∧ g = it S e i) := by
  intro a'
  by_cases haa : a' = a
  · rw [haa]; exact at_
  have np : ((a'.1 + 1, a'.2 + 1) : Int × Int) ≠ tail e := fun z => by
    rw [ha] at z
    have z1 := (Prod.mk.inj z).1
    have z2 := (Prod.mk.inj z).2
    exact haa (Prod.ext (by omega) (by omega))
  have cl : ∀ g, Rim S g → head g = (a'.1 + 1, a'.2 + 1) → ((∃ i, i < k ∧ g = it S e i) ↔ ∃ i, i < k ∧ succ S g = it S e i) := fun g hg hh => by
    have ts : tail (succ S g) = (a'.1 + 1, a'.2 + 1) := by rw [tail_succ, hh]
    constructor
    · rintro ⟨i, hi, rfl⟩
      refine ⟨i + 1, ?_, rfl⟩
      rcases Nat.lt_or_ge (i + 1) k with z | z
      · exact z
      · have : i + 1 = k := by omega
        exfalso
        apply np
        rw [← ts, ← hk, ← this]
        rfl
    · rintro ⟨i, hi, z⟩
      cases i with
      | zero =>
        exfalso
        apply np
        rw [← ts, z]
        rfl
      | succ i => exact ⟨i, by omega, succ_inj hg (it_rim he i) z⟩
  refine even_closed (S := S) (fun g ⟨i, _, hi⟩ => by rw [hi]; exact it_rim he i) ⟨fun h1 h2 => cb_eq (cl _ ⟨h1, h2⟩ (head_a a')), fun h1 h2 => cb_eq (cl _ ⟨h1, h2⟩ (head_b a')), fun h1 h2 => cb_eq (cl _ ⟨h1, ?_⟩ (head_c a')), fun h1 h2 => cb_eq (cl _ ⟨h1, ?_⟩ (head_d a'))⟩
  · show S (nb (nb (nb a' 1) 2) 3) = false
    rw [nb_c3]
    exact h2
  · show S (nb (nb a' 2) 0) = false
    rw [nb_d0]
    exact h2
/-- of two ends at the point just one is on the way -/
theorem arc_ends {h w : Nat} {e : Side} (he : Rim S e) {k : Nat} (k0 : 0 < k) (hk : tail (it S e k) = tail e) (hm : ∀ m, m < k → ¬ (0 < m ∧ tail (it S e m) = tail e)) {f g : Side} (hfg : f ≠ g) (hf : head f = tail e) (hg : head g = tail e)
    (one : ∀ z, Rim S z → head z = tail e → z = f ∨ z = g) : (cb (fun g => ∃ i, i < k ∧ g = it S e i) f ^^ cb (fun g => ∃ i, i < k ∧ g = it S e i) g) = true := by
  have last : ∀ i, i < k → head (it S e i) = tail e → i = k - 1 := fun i hi hh => by
    have : tail (it S e (i + 1)) = tail e := by
      show tail (succ S (it S e i)) = tail e
      rw [tail_succ, hh]
    rcases Nat.lt_or_ge (i + 1) k with z | z
    · exact absurd ⟨by omega, this⟩ (hm (i + 1) z)
    · omega
  have hz : head (it S e (k - 1)) = tail e := by
    rw [← tail_succ (S := S)]
    show tail (it S e (k - 1 + 1)) = tail e
    rw [show k - 1 + 1 = k by omega, hk]
  have uniq : ∀ x, head x = tail e → (cb (fun g => ∃ i, i < k ∧ g = it S e i) x = true ↔ x = it S e (k - 1)) := fun x hx => by
    rw [cb_true]
    constructor
    · rintro ⟨i, hi, rfl⟩
      rw [last i hi hx]
    · intro z
      exact ⟨k - 1, by omega, z⟩
  rcases one _ (it_rim he (k - 1)) hz with z | z
  · have c1 := (uniq f hf).mpr z.symm
    have c2 : cb (fun g => ∃ i, i < k ∧ g = it S e i) g = false := by
      cases c : cb (fun g => ∃ i, i < k ∧ g = it S e i) g with
      | false => rfl
      | true => exact absurd ((uniq g hg).mp c) (fun y => hfg (z.symm.trans y.symm))
    rw [c1, c2]
    rfl
  · have c1 := (uniq g hg).mpr z.symm
    have c2 : cb (fun g => ∃ i, i < k ∧ g = it S e i) f = false := by
      cases c : cb (fun g => ∃ i, i < k ∧ g = it S e i) f with
      | false => rfl
      | true => exact absurd ((uniq f hf).mp c) (fun y => hfg (y.trans z))
    rw [c1, c2]
    rfl
theorem back_point {h w : Nat} (hS : Within h w S) {e : Side} (he : Rim S e) : ∃ k, (0 < k ∧ tail (it S e k) = tail e) ∧ ∀ m, m < k → ¬ (0 < m ∧ tail (it S e m) = tail e) := by
  refine least ?_
  obtain ⟨n, n0, hn⟩ := period hS he
  exact ⟨n, n0, by rw [hn]⟩
theorem cell_ne {x y : Cell} {s t : Fin 4} (h : s ≠ t) : ((x, s) : Side) ≠ (y, t) := fun z => h (Prod.mk.inj z).2
theorem min_deg {h w : Nat} (hS : Within h w S) (m : Min S) (a : Cell) : ¬ Deg4 S a := by
  rintro ⟨h1, h2, h3⟩
  cases ha : S a with
  | true =>
    have hb : S (nb a 1) = false := by
      cases e : S (nb a 1) with
      | false => rfl
      | true => rw [ha, e] at h3; exact absurd rfl h3
    have hc : S (nb (nb a 1) 2) = true := by rw [← h1, ha]
    have hd : S (nb a 2) = false := by rw [← h2, hb]
    have re : Rim S (a, 2) := ⟨ha, hd⟩
    obtain ⟨k, ⟨k0, hk⟩, hm⟩ := back_point hS re
    have sub : ∀ e, (∃ i, i < k ∧ e = it S (a, 2) i) → Rim S e := fun e ⟨i, _, hi⟩ => by rw [hi]; exact it_rim re i
    have other : cb (fun g => ∃ i, i < k ∧ g = it S (a, 2) i) (nb (nb a 1) 2, 0) = false := by
      cases c : cb (fun g => ∃ i, i < k ∧ g = it S (a, 2) i) (nb (nb a 1) 2, 0) with
      | false => rfl
      | true =>
        obtain ⟨i, hi, z⟩ := cb_true.mp c
        cases i with
        | zero => exact absurd z (cell_ne (by decide))
        | succ i =>
          refine absurd ⟨Nat.succ_pos i, ?_⟩ (hm (i + 1) hi)
          rw [← z, tail_c, tail_a]
    have own : cb (fun g => ∃ i, i < k ∧ g = it S (a, 2) i) (a, 2) = true := cb_true.mpr ⟨0, k0, rfl⟩
    have ends := arc_ends (h := h) (w := w) (f := (a, 1)) (g := (nb (nb a 1) 2, 3)) re k0 hk hm (cell_ne (by decide)) (by rw [head_a, tail_a]) (by rw [head_c, tail_a]) fun z hz hh => by
      rcases in_of (a := a) (by rw [hh, tail_a]) with y | y | y | y
      · exact .inl y
      · rw [y] at hz; exact absurd hz.1 (by show ¬ S (nb a 1) = true; rw [hb]; decide)
      · exact .inr y
      · rw [y] at hz; exact absurd hz.1 (by show ¬ S (nb a 2) = true; rw [hd]; decide)
    have ev := arc_even hS re (tail_a a) k0 hk hm (by
      rw [even_eq sub, ha, hb, hc, hd]
      simp only [if_true, if_false, Bool.false_eq_true, reduceIte, own, other]
      revert ends
      cases cb (fun g => ∃ i, i < k ∧ g = it S (a, 2) i) (a, 1) <;> cases cb (fun g => ∃ i, i < k ∧ g = it S (a, 2) i) (nb (nb a 1) 2, 3) <;> simp)
    have all := m _ sub ev ⟨(a, 2), 0, k0, rfl⟩ (nb (nb a 1) 2, 0) ⟨hc, by show S (nb (nb (nb a 1) 2) 0) = false; rw [nb_c0]; exact hb⟩
    rw [cb_true.mpr all] at other
    cases other
  | false =>
    have hb : S (nb a 1) = true := by
      cases e : S (nb a 1) with
      | true => rfl
      | false => rw [ha, e] at h3; exact absurd rfl h3
    have hc : S (nb (nb a 1) 2) = false := by rw [← h1, ha]
    have hd : S (nb a 2) = true := by rw [← h2, hb]
    have re : Rim S (nb a 1, 3) := ⟨hb, by show S (nb (nb a 1) 3) = false; rw [nb_b3]; exact ha⟩
    obtain ⟨k, ⟨k0, hk⟩, hm⟩ := back_point hS re
    have sub : ∀ e, (∃ i, i < k ∧ e = it S (nb a 1, 3) i) → Rim S e := fun e ⟨i, _, hi⟩ => by rw [hi]; exact it_rim re i
    have other : cb (fun g => ∃ i, i < k ∧ g = it S (nb a 1, 3) i) (nb a 2, 1) = false := by
      cases c : cb (fun g => ∃ i, i < k ∧ g = it S (nb a 1, 3) i) (nb a 2, 1) with
      | false => rfl
      | true =>
        obtain ⟨i, hi, z⟩ := cb_true.mp c
        cases i with
        | zero => exact absurd z (cell_ne (by decide))
        | succ i =>
          refine absurd ⟨Nat.succ_pos i, ?_⟩ (hm (i + 1) hi)
          rw [← z, tail_d, tail_b]
    have own : cb (fun g => ∃ i, i < k ∧ g = it S (nb a 1, 3) i) (nb a 1, 3) = true := cb_true.mpr ⟨0, k0, rfl⟩
    have ends := arc_ends (h := h) (w := w) (f := (nb a 1, 2)) (g := (nb a 2, 0)) re k0 hk hm (cell_ne (by decide)) (by rw [head_b, tail_b]) (by rw [head_d, tail_b]) fun z hz hh => by
      rcases in_of (a := a) (by rw [hh, tail_b]) with y | y | y | y
      · rw [y] at hz; exact absurd hz.1 (by show ¬ S a = true; rw [ha]; decide)
      · exact .inl y
      · rw [y] at hz; exact absurd hz.1 (by show ¬ S (nb (nb a 1) 2) = true; rw [hc]; decide)
      · exact .inr y
    have ev := arc_even hS re (tail_b a) k0 hk hm (by
      rw [even_eq sub, ha, hb, hc, hd]
      simp only [if_true, if_false, Bool.false_eq_true, reduceIte, own, other]
      revert ends
      cases cb (fun g => ∃ i, i < k ∧ g = it S (nb a 1, 3) i) (nb a 1, 2) <;> cases cb (fun g => ∃ i, i < k ∧ g = it S (nb a 1, 3) i) (nb a 2, 0) <;> simp)
    have all := m _ sub ev ⟨(nb a 1, 3), 0, k0, rfl⟩ (nb a 2, 1) ⟨hd, by show S (nb (nb a 2) 1) = false; rw [nb_d1]; exact hc⟩
    rw [cb_true.mpr all] at other
    cases other
/-- the corner at which a side ends -/
def cor (e : Side) : Cell := ((head e).1 - 1, (head e).2 - 1)
theorem cor_head (e : Side) : head e = ((cor e).1 + 1, (cor e).2 + 1) := by
  unfold cor
  refine Prod.ext ?_ ?_ <;> dsimp only <;> omega
theorem orbit_min {h w : Nat} (hS : Within h w S) (nd : ∀ a, ¬ Deg4 S a) (one : OneOrbit S) : Min S := by
  intro C hC hE ⟨e0, h0⟩ e he
  have step : ∀ g, C g → C (succ S g) := fun g hg => by
    have rg := hC g hg
    have hin := closed_even hC (nd (cor g)) (hE (cor g))
    obtain ⟨h1, h2, h3, h4⟩ := hin
    have key : cb C g = cb C (succ S g) := by
      rcases in_of (cor_head g) with z | z | z | z
      · have r := rg
        rw [z] at r
        rw [z]
        exact h1 r.1 r.2
      · have r := rg
        rw [z] at r
        rw [z]
        exact h2 r.1 r.2
      · have r := rg
        rw [z] at r
        have r2 := r.2
        dsimp only at r2
        rw [nb_c3] at r2
        rw [z]
        exact h3 r.1 r2
      · have r := rg
        rw [z] at r
        have r2 := r.2
        dsimp only at r2
        rw [nb_d0] at r2
        rw [z]
        exact h4 r.1 r2
    exact cb_true.mp (by rw [← key]; exact cb_true.mpr hg)
  have all : ∀ i, C (it S e0 i) := fun i => by
    induction i with
    | zero => exact h0
    | succ i ih => exact step _ ih
  obtain ⟨i, rfl⟩ := one e0 e (hC e0 h0) he
  exact all i
/-- the theorem: hanging together with none shut in, just if no point is met twice and one way goes round all sides -/
theorem ring_iff {h w : Nat} (hS : Within h w S) : Good h w S ↔ (∀ a, ¬ Deg4 S a) ∧ OneOrbit S := by
  constructor
  · intro g
    have m := good_min hS g
    exact ⟨min_deg hS m, min_orbit hS m⟩
  · rintro ⟨nd, one⟩
    exact min_good hS (orbit_min hS nd one)
/-- where no point is met twice a side is told by where it begins -/
theorem tail_inj (nd : ∀ a, ¬ Deg4 S a) {e f : Side} (he : Rim S e) (hf : Rim S f) (h : tail e = tail f) : e = f := by
  have hp : ∃ a : Cell, tail e = (a.1 + 1, a.2 + 1) := ⟨((tail e).1 - 1, (tail e).2 - 1), by refine Prod.ext ?_ ?_ <;> dsimp only <;> omega⟩
  obtain ⟨a, ha⟩ := hp
  have n := nd a
  unfold Deg4 at n
  have hb : tail f = (a.1 + 1, a.2 + 1) := by rw [← h, ha]
  rcases out_of ha with x | x | x | x <;> rcases out_of hb with y | y | y | y <;> subst x <;> subst y <;> first | rfl | skip
  all_goals exfalso
  all_goals obtain ⟨a1, a2⟩ := he
  all_goals obtain ⟨b1, b2⟩ := hf
  all_goals dsimp only at a1 a2 b1 b2
  all_goals simp only [nb_b3, nb_c0, nb_d1] at a1 a2 b1 b2
  all_goals simp_all
theorem head_inj (nd : ∀ a, ¬ Deg4 S a) {e f : Side} (he : Rim S e) (hf : Rim S f) (h : head e = head f) : e = f :=
  succ_inj he hf (tail_inj nd (succ_rim he) (succ_rim hf) (by rw [tail_succ, tail_succ, h]))
end
end Sd.J

/-! The ring theorem, third part: the program's own words (spread, is_inner, is_ring) are those of the theorem. -/
namespace Sd
open Sd.J
/-- the cells as a set of the plane -/
def Sc (h w : Nat) (cs : List Int) : Cell → Bool := fun x => inCell h w cs x.1 x.2
def cellOf (w : Nat) (x : Int) : Cell := (x / (w : Int), x % (w : Int))
def idx (w : Nat) (x : Cell) : Int := x.1 * (w : Int) + x.2
theorem sc_within (h w : Nat) (cs : List Int) : Within h w (Sc h w cs) := fun x hx => by
  unfold Sc inCell at hx
  simp only [Bool.and_eq_true, decide_eq_true_eq] at hx
  exact ⟨hx.1, hx.2.1⟩
theorem sc_iff {h w : Nat} {cs : List Int} {x : Cell} : Sc h w cs x = true ↔ inG h w x ∧ idx w x ∈ cs := by
  unfold Sc inCell inG idx
  simp only [Bool.and_eq_true, decide_eq_true_eq]
  exact ⟨fun h => ⟨⟨h.1, h.2.1⟩, h.2.2⟩, fun h => ⟨h.1.1, h.1.2, h.2⟩⟩
section
variable {h w : Nat} (gk : GOk h w)
include gk
theorem w_cases : w = 1 ∨ w = 2 ∨ w = 3 ∨ w = 4 ∨ w = 5 ∨ w = 6 := by obtain ⟨_, _, _, _⟩ := gk; omega
theorem cell_inG {x : Int} (h0 : 0 ≤ x) (h1 : x < (h : Int) * w) : inG h w (cellOf w x) := by
  unfold inG cellOf
  dsimp only
  have := w_cases gk
  rcases this with rfl | rfl | rfl | rfl | rfl | rfl <;> omega
theorem idx_cell (x : Int) : idx w (cellOf w x) = x := by
  unfold idx cellOf
  dsimp only
  have := w_cases gk
  rcases this with rfl | rfl | rfl | rfl | rfl | rfl <;> omega
theorem cell_idx {x : Cell} (hx : inG h w x) : cellOf w (idx w x) = x := by
  obtain ⟨r, c⟩ := x
  unfold inG at hx
  unfold idx cellOf
  dsimp only at hx ⊢
  have := w_cases gk
  refine Prod.ext ?_ ?_ <;> dsimp only <;> rcases this with rfl | rfl | rfl | rfl | rfl | rfl <;> omega
theorem idx_range {x : Cell} (hx : inG h w x) : 0 ≤ idx w x ∧ idx w x < (h : Int) * w := by
  obtain ⟨r, c⟩ := x
  unfold inG at hx
  unfold idx
  dsimp only at hx ⊢
  have := w_cases gk
  rcases this with rfl | rfl | rfl | rfl | rfl | rfl <;> omega
/-- beside: across a side, within the grid -/
theorem mem_beside {x o : Int} (h0 : 0 ≤ x) (h1 : x < (h : Int) * w) : o ∈ beside h w x ↔ ∃ s, inG h w (nb (cellOf w x) s) ∧ o = idx w (nb (cellOf w x) s) := by
  unfold beside besideA besideB besideC besideD
  simp only [List.mem_append]
  constructor
  · rintro (((ha | ha) | ha) | ha)
    · split at ha
      · refine ⟨0, ?_⟩
        have : o = x - w := by simpa using ha
        unfold nb inG idx cellOf
        dsimp only
        rcases w_cases gk with rfl | rfl | rfl | rfl | rfl | rfl <;> omega
      · cases ha
    · split at ha
      · refine ⟨3, ?_⟩
        have : o = x - 1 := by simpa using ha
        unfold nb inG idx cellOf
        dsimp only
        rcases w_cases gk with rfl | rfl | rfl | rfl | rfl | rfl <;> omega
      · cases ha
    · split at ha
      · refine ⟨1, ?_⟩
        have : o = x + 1 := by simpa using ha
        unfold nb inG idx cellOf
        dsimp only
        rcases w_cases gk with rfl | rfl | rfl | rfl | rfl | rfl <;> omega
      · cases ha
    · split at ha
      · refine ⟨2, ?_⟩
        have : o = x + w := by simpa using ha
        unfold nb inG idx cellOf
        dsimp only
        rcases w_cases gk with rfl | rfl | rfl | rfl | rfl | rfl <;> omega
      · cases ha
  · rintro ⟨s, hs, ho⟩
    revert s
    refine fin4 _ ?_ ?_ ?_ ?_ <;> intro hs ho <;> unfold nb inG cellOf at hs <;> unfold nb idx cellOf at ho <;> dsimp only at hs ho
    · refine .inl (.inl (.inl ?_))
      rw [if_pos (by rcases w_cases gk with rfl | rfl | rfl | rfl | rfl | rfl <;> omega)]
      have : o = x - w := by rcases w_cases gk with rfl | rfl | rfl | rfl | rfl | rfl <;> omega
      simp [this]
    · refine .inl (.inr ?_)
      rw [if_pos (by rcases w_cases gk with rfl | rfl | rfl | rfl | rfl | rfl <;> omega)]
      have : o = x + 1 := by rcases w_cases gk with rfl | rfl | rfl | rfl | rfl | rfl <;> omega
      simp [this]
    · refine .inr ?_
      rw [if_pos (by rcases w_cases gk with rfl | rfl | rfl | rfl | rfl | rfl <;> omega)]
      have : o = x + w := by rcases w_cases gk with rfl | rfl | rfl | rfl | rfl | rfl <;> omega
      simp [this]
    · refine .inl (.inl (.inr ?_))
      rw [if_pos (by rcases w_cases gk with rfl | rfl | rfl | rfl | rfl | rfl <;> omega)]
      have : o = x - 1 := by rcases w_cases gk with rfl | rfl | rfl | rfl | rfl | rfl <;> omega
      simp [this]
theorem edge_iff {x : Int} (h0 : 0 ≤ x) (h1 : x < (h : Int) * w) : onEdge h w x = true ↔ Edge h w (cellOf w x) := by
  unfold onEdge Edge
  simp only [Bool.or_eq_true, decide_eq_true_eq]
  constructor
  · rintro (ha | ha | ha | ha)
    · exact ⟨0, by unfold nb inG cellOf; dsimp only; rcases w_cases gk with rfl | rfl | rfl | rfl | rfl | rfl <;> omega⟩
    · exact ⟨2, by unfold nb inG cellOf; dsimp only; rcases w_cases gk with rfl | rfl | rfl | rfl | rfl | rfl <;> omega⟩
    · exact ⟨3, by unfold nb inG cellOf; dsimp only; rcases w_cases gk with rfl | rfl | rfl | rfl | rfl | rfl <;> omega⟩
    · exact ⟨1, by unfold nb inG cellOf; dsimp only; rcases w_cases gk with rfl | rfl | rfl | rfl | rfl | rfl <;> omega⟩
  · rintro ⟨s, hs⟩
    revert s
    refine fin4 _ ?_ ?_ ?_ ?_ <;> intro hs <;> unfold nb inG cellOf at hs <;> dsimp only at hs <;> rcases w_cases gk with rfl | rfl | rfl | rfl | rfl | rfl <;> omega
end
/-! ### spread is what is come by -/
inductive Conn (h w : Nat) (cs : List Int) : Int → Int → Prop
  | refl (x : Int) : Conn h w cs x x
  | step {x y o : Int} (hy : Conn h w cs x y) (hb : o ∈ beside h w y) (ho : o ∈ cs) : Conn h w cs x o
theorem spreadGo_sound {h w : Nat} {cs : List Int} {x : Int} : ∀ (k : Nat) (f : List Int) (a : Nat), (∀ o ∈ f, Conn h w cs x o) → ∀ o ∈ spreadGo h w cs k f a, Conn h w cs x o
  | 0, f, a, hf => hf
  | k + 1, f, a, hf => by
    unfold spreadGo
    cases hfa : f[a]? with
    | none => exact hf
    | some y =>
      refine spreadGo_sound k _ _ fun o ho => ?_
      rcases List.mem_append.mp ho with ho | ho
      · exact hf o ho
      · obtain ⟨h1, h2⟩ := List.mem_filter.mp ho
        simp only [Bool.and_eq_true, decide_eq_true_eq] at h2
        exact .step (hf y (List.mem_of_getElem? hfa)) h1 h2.1
theorem spreadGo_closed {h w : Nat} (hw : 0 < w) {cs : List Int} {x : Int} : ∀ (k : Nat) (f : List Int) (a : Nat), f.Nodup → (∀ o ∈ f, o ∈ x :: cs) → cs.length + 2 ≤ k + a → (∀ (i : Nat) (y : Int), i < a → f[i]? = some y → ∀ o ∈ beside h w y, o ∈ cs → o ∈ f) →
    (∀ o ∈ f, o ∈ spreadGo h w cs k f a) ∧ ∀ y ∈ spreadGo h w cs k f a, ∀ o ∈ beside h w y, o ∈ cs → o ∈ spreadGo h w cs k f a
  | 0, f, a, fn, fs, hk, hc => by
    have fl : f.length ≤ cs.length + 1 := nodup_sub (m := x :: cs) fn fs
    refine ⟨fun o ho => ho, fun y hy o ho hm => ?_⟩
    have hy' : y ∈ f := hy
    obtain ⟨i, hi⟩ := List.mem_iff_getElem?.mp hy'
    have := (List.getElem?_eq_some_iff.mp hi).1
    exact hc i y (by omega) hi o ho hm
  | k + 1, f, a, fn, fs, hk, hc => by
    unfold spreadGo
    cases hfa : f[a]? with
    | none =>
      refine ⟨fun o ho => ho, fun y hy o ho hm => ?_⟩
      have hy' : y ∈ f := hy
      obtain ⟨i, hi⟩ := List.mem_iff_getElem?.mp hy'
      have h1 := (List.getElem?_eq_some_iff.mp hi).1
      have h2 := List.getElem?_eq_none_iff.mp hfa
      exact hc i y (by omega) hi o ho hm
    | some z =>
      have st := spread_step (h := h) hw (x := z) fn fs
      have ih := spreadGo_closed hw k _ (a + 1) st.1 st.2 (by omega) (fun i y hi hy o ho hm => by
        have al := (List.getElem?_eq_some_iff.mp hfa).1
        have hif : f[i]? = some y := by
          rw [List.getElem?_append_left (by omega)] at hy
          exact hy
        by_cases hof : o ∈ f
        · exact List.mem_append_left _ hof
        · by_cases hia : i < a
          · exact List.mem_append_left _ (hc i y hia hif o ho hm)
          · have : i = a := by omega
            subst this
            rw [hfa] at hif
            have e := Option.some.inj hif
            subst e
            refine List.mem_append_right _ (List.mem_filter.mpr ⟨ho, ?_⟩)
            simp [hm, hof])
      exact ⟨fun o ho => ih.1 o (List.mem_append_left _ ho), ih.2⟩
theorem mem_spread {h w : Nat} (hw : 0 < w) {cs : List Int} {x o : Int} : o ∈ spread h w x cs ↔ Conn h w cs x o := by
  constructor
  · exact spreadGo_sound _ _ _ (fun o ho => by have : o = x := by simpa using ho
                                               rw [this]; exact .refl x) o
  · intro hc
    have cl := spreadGo_closed (h := h) hw (cs := cs) (x := x) (cs.length + 2) [x] 0 (by simp) (by simp) (by omega) (fun i y hi => absurd hi (Nat.not_lt_zero i))
    induction hc with
    | refl => exact cl.1 x (by simp)
    | step hy hb ho ih => exact cl.2 _ (ih) _ hb ho
/-! ### reaching -/
theorem Reach.trans {A : Cell → Prop} {x y z : Cell} (h1 : Reach A x y) (h2 : Reach A y z) : Reach A x z := by
  induction h2 with
  | refl h => exact h1
  | step s h hy ih => exact .step s ih hy
theorem Reach.symm {A : Cell → Prop} {x y : Cell} (h : Reach A x y) : Reach A y x := by
  induction h with
  | refl h => exact .refl h
  | @step y s h hy ih =>
    have : Reach A (nb y s) y := by
      have r := Reach.step (s + 2) (.refl hy) (by rw [nb_back]; exact h.stop)
      rw [nb_back] at r
      exact r
    exact Reach.trans this ih
section
variable {h w : Nat} (gk : GOk h w) {cs : List Int} (A : Cell → Prop) (hA : ∀ x, A x ↔ inG h w x ∧ idx w x ∈ cs) (hc : ∀ x ∈ cs, 0 ≤ x ∧ x < (h : Int) * w)
include gk hA hc
theorem conn_reach {x o : Int} (hx : x ∈ cs) (h1 : Conn h w cs x o) : o ∈ cs ∧ Reach A (cellOf w x) (cellOf w o) := by
  have inA : ∀ y ∈ cs, A (cellOf w y) := fun y hy => (hA _).mpr ⟨cell_inG gk (hc y hy).1 (hc y hy).2, by rw [idx_cell gk]; exact hy⟩
  induction h1 with
  | refl => exact ⟨hx, .refl (inA x hx)⟩
  | @step y o hy hb ho ih =>
    refine ⟨ho, ?_⟩
    obtain ⟨s, hs, rfl⟩ := (mem_beside gk (hc y ih.1).1 (hc y ih.1).2).mp hb
    rw [cell_idx gk hs]
    exact .step s ih.2 ((hA _).mpr ⟨hs, ho⟩)
theorem reach_conn {x : Int} (hx : x ∈ cs) {y : Cell} (h1 : Reach A (cellOf w x) y) : Conn h w cs x (idx w y) := by
  have key : ∀ {z : Cell}, Reach A z y → z = cellOf w x → Conn h w cs x (idx w y) := by
    intro z hr
    induction hr with
    | refl ha =>
      intro e
      rw [e, idx_cell gk]
      exact .refl x
    | @step y s hr hy ih =>
      intro e
      have hg := (hA _).mp hr.stop
      have hg2 := (hA _).mp hy
      refine .step (ih (e ▸ hr) e) ?_ hg2.2
      refine (mem_beside gk (idx_range gk hg.1).1 (idx_range gk hg.1).2).mpr ⟨s, ?_, ?_⟩
      · rw [cell_idx gk hg.1]; exact hg2.1
      · rw [cell_idx gk hg.1]
  exact key h1 rfl
end
/-! ### the program's word -/
section
variable {h w : Nat} (gk : GOk h w)
include gk
theorem mem_rest {cs : List Int} {x : Int} : x ∈ restOf h w cs ↔ (0 ≤ x ∧ x < (h : Int) * w) ∧ x ∉ cs := by
  unfold restOf
  simp only [List.mem_map, List.mem_filter, List.mem_range, Bool.not_eq_true', decide_eq_false_iff_not]
  have cast : ((h * w : Nat) : Int) = (h : Int) * w := Int.natCast_mul h w
  constructor
  · rintro ⟨i, ⟨h1, h2⟩, rfl⟩
    exact ⟨⟨by omega, by omega⟩, h2⟩
  · rintro ⟨⟨h1, h2⟩, h3⟩
    have e : ((x.toNat : Nat) : Int) = x := by omega
    exact ⟨x.toNat, ⟨by omega, by rw [e]; exact h3⟩, e⟩
theorem rest_iff {cs : List Int} {x : Cell} : Rest h w (Sc h w cs) x ↔ inG h w x ∧ idx w x ∈ restOf h w cs := by
  unfold Rest
  constructor
  · rintro ⟨h1, h2⟩
    refine ⟨h1, (mem_rest gk).mpr ⟨idx_range gk h1, fun z => ?_⟩⟩
    rw [sc_iff.mpr ⟨h1, z⟩] at h2
    cases h2
  · rintro ⟨h1, h2⟩
    refine ⟨h1, ?_⟩
    cases e : Sc h w cs x with
    | false => rfl
    | true => exact absurd (sc_iff.mp e).2 ((mem_rest gk).mp h2).2
theorem inner_iff {cs : List Int} {x : Int} (hx : x ∈ restOf h w cs) : isInner h w cs x = false ↔ ∃ y, Reach (Rest h w (Sc h w cs)) (cellOf w x) y ∧ Edge h w y := by
  have hr : ∀ z ∈ restOf h w cs, 0 ≤ z ∧ z < (h : Int) * w := fun z hz => ((mem_rest gk).mp hz).1
  have hA : ∀ z, Rest h w (Sc h w cs) z ↔ inG h w z ∧ idx w z ∈ restOf h w cs := fun z => rest_iff gk
  unfold isInner
  rw [List.all_eq_false]
  constructor
  · rintro ⟨o, ho, he⟩
    have c := (mem_spread gk.2.2.1).mp ho
    obtain ⟨om, r⟩ := conn_reach gk _ hA hr hx c
    refine ⟨cellOf w o, r, (edge_iff gk (hr o om).1 (hr o om).2).mp ?_⟩
    simpa using he
  · rintro ⟨y, hy, he⟩
    have c := reach_conn gk _ hA hr hx hy
    have yg := (hA _).mp hy.stop
    refine ⟨idx w y, (mem_spread gk.2.2.1).mpr c, ?_⟩
    have := (edge_iff gk (idx_range gk yg.1).1 (idx_range gk yg.1).2).mpr (by rw [cell_idx gk yg.1]; exact he)
    simp [this]
theorem firstInner_none {cs : List Int} : firstInner h w cs = none ↔ ∀ x ∈ restOf h w cs, isInner h w cs x = false := by
  unfold firstInner
  rw [List.find?_eq_none]
  constructor
  · intro hf x hx
    obtain ⟨⟨h0, h1⟩, h2⟩ := (mem_rest gk).mp hx
    have e : ((x.toNat : Nat) : Int) = x := by omega
    have cast : ((h * w : Nat) : Int) = (h : Int) * w := Int.natCast_mul h w
    have := hf x.toNat (List.mem_range.mpr (by omega))
    rw [e] at this
    simpa [h2] using this
  · intro ha i hi hf
    have hi := List.mem_range.mp hi
    simp only [Bool.and_eq_true, Bool.not_eq_true', decide_eq_false_iff_not] at hf
    have cast : ((h * w : Nat) : Int) = (h : Int) * w := Int.natCast_mul h w
    have := ha (i : Int) ((mem_rest gk).mpr ⟨⟨by omega, by omega⟩, hf.1⟩)
    rw [this] at hf
    exact absurd hf.2 (by decide)
theorem spread_all {cs : List Int} (ck : COk h w cs) : ¬ (spread h w (cs.headD 0) cs).length < cs.length ↔ ∀ o ∈ cs, Conn h w cs (cs.headD 0) o := by
  have hh : cs.headD 0 ∈ cs := by
    cases cs with
    | nil => exact absurd rfl ck.1
    | cons a r => exact List.mem_cons_self
  have so := spread_ok h (w := w) gk.2.2.1 (cs.headD 0) cs
  have sub : ∀ o ∈ spread h w (cs.headD 0) cs, o ∈ cs := fun o ho => by
    rcases List.mem_cons.mp (so.2 o ho) with e | e
    · rw [e]; exact hh
    · exact e
  have nd : cs.Nodup := List.Pairwise.imp (fun a => by omega) ck.2.2
  constructor
  · intro hl o ho
    refine (mem_spread gk.2.2.1).mp (Classical.byContradiction fun hn => ?_)
    have : ((spread h w (cs.headD 0) cs) ++ [o]).length ≤ cs.length := nodup_sub (List.nodup_append.mpr ⟨so.1, by simp, fun a ha b hb e => by
      have : b = o := by simpa using hb
      exact hn (by rw [← this, ← e]; exact ha)⟩) fun z hz => by
        rcases List.mem_append.mp hz with hz | hz
        · exact sub z hz
        · have : z = o := by simpa using hz
          rw [this]; exact ho
    rw [List.length_append, List.length_singleton] at this
    omega
  · intro ha hl
    have := nodup_sub nd fun o ho => (mem_spread gk.2.2.1).mpr (ha o ho)
    omega
theorem isRing_good {cs : List Int} (ck : COk h w cs) : isRing h w cs = true ↔ Good h w (Sc h w cs) := by
  have hc := ck.2.1
  have hA : ∀ z, Sc h w cs z = true ↔ inG h w z ∧ idx w z ∈ cs := fun z => sc_iff
  have hh : cs.headD 0 ∈ cs := by
    have := ck.1
    cases cs with
    | nil => exact absurd rfl this
    | cons a r => exact List.mem_cons_self
  have e : isRing h w cs = true ↔ (¬ (spread h w (cs.headD 0) cs).length < cs.length ∧ firstInner h w cs = none) := by
    unfold isRing
    split
    · rename_i hl
      exact ⟨fun z => (nomatch z), fun z => absurd hl z.1⟩
    · rename_i hl
      rw [Option.isNone_iff_eq_none]
      exact ⟨fun z => ⟨hl, z⟩, fun z => z.2⟩
  rw [e, spread_all gk ck, firstInner_none gk]
  constructor
  · rintro ⟨h1, h2⟩
    have from0 : ∀ y, Sc h w cs y = true → Reach (fun z => Sc h w cs z = true) (cellOf w (cs.headD 0)) y := fun y hy => by
      have hg := (hA y).mp hy
      have := (conn_reach gk _ hA hc hh (h1 _ hg.2)).2
      rw [cell_idx gk hg.1] at this
      exact this
    refine ⟨fun x y hx hy => Reach.trans (Reach.symm (from0 x hx)) (from0 y hy), fun x hx => ?_⟩
    have hr := (rest_iff gk).mp hx
    have := (inner_iff gk hr.2).mp (h2 _ hr.2)
    rw [cell_idx gk hr.1] at this
    exact this
  · rintro ⟨one, out⟩
    refine ⟨fun o ho => ?_, fun x hx => ?_⟩
    · have inS : ∀ z ∈ cs, Sc h w cs (cellOf w z) = true := fun z hz => (hA _).mpr ⟨cell_inG gk (hc z hz).1 (hc z hz).2, by rw [idx_cell gk]; exact hz⟩
      have := reach_conn gk _ hA hc hh (one _ _ (inS _ hh) (inS o ho))
      rw [idx_cell gk] at this
      exact this
    · have hg := (mem_rest gk).mp hx
      refine (inner_iff gk hx).mpr (out _ ((rest_iff gk).mpr ⟨cell_inG gk hg.1.1 hg.1.2, by rw [idx_cell gk]; exact hx⟩))
/-- is_ring, just if no point is met twice and one way goes round all sides -/
theorem isRing_iff {cs : List Int} (ck : COk h w cs) : isRing h w cs = true ↔ (∀ a, ¬ Deg4 (Sc h w cs) a) ∧ OneOrbit (Sc h w cs) := (isRing_good gk ck).trans (ring_iff (sc_within h w cs))
end
end Sd

/-! The ring theorem, fourth part: the law's own way round: sides counted, points' neighbours, steps. -/
namespace Sd
open Sd.J
abbrev Pt := Int × Int
abbrev Sd2 := Pt × Pt
/-- a side without its direction: its two points in order -/
def und (e : Side) : Sd2 :=
  match e.2 with
  | 0 => ((e.1.1, e.1.2), (e.1.1, e.1.2 + 1))
  | 1 => ((e.1.1, e.1.2 + 1), (e.1.1 + 1, e.1.2 + 1))
  | 2 => ((e.1.1 + 1, e.1.2), (e.1.1 + 1, e.1.2 + 1))
  | 3 => ((e.1.1, e.1.2), (e.1.1 + 1, e.1.2))
theorem und_ends (e : Side) : (und e = (tail e, head e)) ∨ (und e = (head e, tail e)) := by
  obtain ⟨⟨r, c⟩, s⟩ := e
  revert s
  refine fin4 _ ?_ ?_ ?_ ?_
  · exact .inl rfl
  · exact .inl rfl
  · exact .inr rfl
  · exact .inr rfl
theorem und_back (x : Cell) (s : Fin 4) : und (nb x s, s + 2) = und (x, s) := by
  obtain ⟨r, c⟩ := x
  revert s
  refine fin4 _ ?_ ?_ ?_ ?_
  · show (((r - 1 + 1, c), (r - 1 + 1, c + 1)) : Sd2) = ((r, c), (r, c + 1))
    rw [Int.sub_add_cancel]
  · rfl
  · rfl
  · show (((r, c - 1 + 1), (r + 1, c - 1 + 1)) : Sd2) = ((r, c), (r + 1, c))
    rw [Int.sub_add_cancel]
theorem und_eq {x y : Cell} {s t : Fin 4} (h : und (x, s) = und (y, t)) : (y, t) = (x, s) ∨ (y, t) = (nb x s, s + 2) := by
  obtain ⟨r, c⟩ := x
  obtain ⟨r', c'⟩ := y
  revert h
  suffices key : ∀ s t : Fin 4, und ((r, c), s) = und ((r', c'), t) → ((r', c'), t) = ((r, c), s) ∨ ((r', c'), t) = (nb (r, c) s, s + 2) from key s t
  refine fin4 _ ?_ ?_ ?_ ?_ <;> refine fin4 _ ?_ ?_ ?_ ?_ <;> intro h <;> simp only [und, Prod.mk.injEq] at h
  all_goals first
    | (exfalso; omega)
    | (left; refine Prod.ext (Prod.ext ?_ ?_) ?_ <;> first | rfl | (dsimp only; omega))
    | (right; refine Prod.ext (Prod.ext ?_ ?_) ?_ <;> first | rfl | (simp only [nb]; omega))
theorem und_lt (e : Side) : (und e).1.1 < (und e).2.1 ∨ ((und e).1.1 = (und e).2.1 ∧ (und e).1.2 < (und e).2.2) := by
  obtain ⟨⟨r, c⟩, s⟩ := e
  revert s
  refine fin4 _ ?_ ?_ ?_ ?_
  · exact .inr ⟨rfl, (by show c < c + 1; omega)⟩
  · exact .inl (by show r < r + 1; omega)
  · exact .inr ⟨rfl, (by show c < c + 1; omega)⟩
  · exact .inl (by show r < r + 1; omega)
def RimU (S : Cell → Bool) (u : Sd2) : Prop := ∃ e, Rim S e ∧ und e = u
theorem und_rim {S : Cell → Bool} {e f : Side} (he : Rim S e) (hf : Rim S f) (h : und e = und f) : e = f := by
  obtain ⟨x, s⟩ := e
  obtain ⟨y, t⟩ := f
  rcases und_eq h with z | z
  · exact z.symm
  · have h1 := hf.1
    have h2 := he.2
    have : y = nb x s := (Prod.mk.inj z).1
    dsimp only at h1 h2
    rw [this, h2] at h1
    cases h1
/-! ### sides counted -/
def cellSides (x : Cell) : List Sd2 := [und (x, 0), und (x, 2), und (x, 3), und (x, 1)]
theorem mem_cellSides {x : Cell} {u : Sd2} : u ∈ cellSides x ↔ ∃ s, u = und (x, s) := by
  unfold cellSides
  simp only [List.mem_cons, List.not_mem_nil, or_false]
  constructor
  · rintro (z | z | z | z)
    · exact ⟨0, z⟩
    · exact ⟨2, z⟩
    · exact ⟨3, z⟩
    · exact ⟨1, z⟩
  · rintro ⟨s, z⟩
    revert z
    revert s
    refine fin4 _ ?_ ?_ ?_ ?_ <;> intro z
    · exact .inl z
    · exact .inr (.inr (.inr z))
    · exact .inr (.inl z)
    · exact .inr (.inr (.inl z))
theorem nb_ne (x : Cell) (s : Fin 4) : nb x s ≠ x := by
  obtain ⟨r, c⟩ := x
  revert s
  refine fin4 _ ?_ ?_ ?_ ?_ <;> simp only [nb, ne_eq, Prod.mk.injEq] <;> omega
theorem cellSides_nodup (x : Cell) : (cellSides x).Nodup := by
  have ne : ∀ s t : Fin 4, s ≠ t → und (x, s) ≠ und (x, t) := fun s t h z => by
    rcases und_eq z with y | y
    · exact h (Prod.mk.inj y).2.symm
    · exact nb_ne x s (Prod.mk.inj y).1.symm
  unfold cellSides
  simp only [List.nodup_cons, List.mem_cons, List.not_mem_nil, or_false, not_or, not_false_eq_true, List.nodup_nil, and_true]
  exact ⟨⟨ne _ _ (by decide), ne _ _ (by decide), ne _ _ (by decide)⟩, ⟨ne _ _ (by decide), ne _ _ (by decide)⟩, ne _ _ (by decide)⟩
def allSides (xs : List Cell) : List Sd2 := xs.flatMap cellSides
theorem count_all (xs : List Cell) (u : Sd2) : (allSides xs).count u = (xs.filter fun y => decide (u ∈ cellSides y)).length := by
  unfold allSides
  induction xs with
  | nil => rfl
  | cons x r ih =>
    rw [List.flatMap_cons, List.count_append, ih, List.filter_cons]
    by_cases hu : u ∈ cellSides x
    · rw [if_pos (decide_eq_true hu), List.length_cons]
      have : (cellSides x).count u = 1 := by
        have h1 := List.nodup_iff_count.mp (cellSides_nodup x) u
        have h2 := List.count_pos_iff.mpr hu
        omega
      omega
    · rw [if_neg (by simpa using hu), List.count_eq_zero.mpr hu]
      omega
theorem nodup_one {α : Type} [DecidableEq α] {l : List α} {x : α} (hn : l.Nodup) (hx : x ∈ l) (h : ∀ y ∈ l, y = x) : l.length = 1 := by
  have h1 := nodup_len (m := [x]) hn fun o ho => by rw [h o ho]; exact List.mem_cons_self
  have h2 : 0 < l.length := List.length_pos_of_mem hx
  simp at h1
  omega
theorem count_rim {S : Cell → Bool} {xs : List Cell} (hn : xs.Nodup) (hx : ∀ x, x ∈ xs ↔ S x = true) (u : Sd2) : (allSides xs).count u = 1 ↔ RimU S u := by
  rw [count_all]
  have fn : (xs.filter fun y => decide (u ∈ cellSides y)).Nodup := hn.filter _
  constructor
  · intro h1
    have : 0 < (xs.filter fun y => decide (u ∈ cellSides y)).length := by omega
    obtain ⟨x, hxf⟩ := List.exists_mem_of_length_pos this
    obtain ⟨hx1, hx2⟩ := List.mem_filter.mp hxf
    obtain ⟨s, rfl⟩ := mem_cellSides.mp (of_decide_eq_true hx2)
    refine ⟨(x, s), ⟨(hx x).mp hx1, ?_⟩, rfl⟩
    cases e : S (nb x s) with
    | false => rfl
    | true =>
      exfalso
      have m2 : nb x s ∈ xs.filter fun y => decide (und (x, s) ∈ cellSides y) := List.mem_filter.mpr ⟨(hx _).mpr e, decide_eq_true (mem_cellSides.mpr ⟨s + 2, (und_back x s).symm⟩)⟩
      have := nodup_len (l := [x, nb x s]) (m := xs.filter fun y => decide (und (x, s) ∈ cellSides y)) (by simp [(nb_ne x s).symm]) fun o ho => by
        simp only [List.mem_cons, List.not_mem_nil, or_false] at ho
        rcases ho with rfl | rfl
        · exact hxf
        · exact m2
      simp only [List.length_cons, List.length_nil] at this
      omega
  · rintro ⟨⟨x, s⟩, ⟨h1, h2⟩, rfl⟩
    refine nodup_one fn (x := x) (List.mem_filter.mpr ⟨(hx x).mpr h1, decide_eq_true (mem_cellSides.mpr ⟨s, rfl⟩)⟩) fun y hy => ?_
    obtain ⟨hy1, hy2⟩ := List.mem_filter.mp hy
    obtain ⟨t, ht⟩ := mem_cellSides.mp (of_decide_eq_true hy2)
    rcases und_eq ht with z | z
    · exact (Prod.mk.inj z).1
    · exfalso
      have e := (Prod.mk.inj z).1
      have := (hx y).mp hy1
      rw [e] at this
      dsimp only at h2
      rw [h2] at this
      cases this
/-! ### a point's neighbours -/
def nbrs (us : List Sd2) (p : Pt) : List Pt := us.flatMap fun u => (if u.1 = p then [u.2] else []) ++ (if u.2 = p then [u.1] else [])
theorem mem_nbrs {us : List Sd2} {p q : Pt} : q ∈ nbrs us p ↔ (p, q) ∈ us ∨ (q, p) ∈ us := by
  unfold nbrs
  simp only [List.mem_flatMap, List.mem_append]
  constructor
  · rintro ⟨u, hu, h | h⟩
    · split at h
      · rename_i e
        have : q = u.2 := by simpa using h
        left
        rw [this, ← e]
        exact hu
      · cases h
    · split at h
      · rename_i e
        have : q = u.1 := by simpa using h
        right
        rw [this, ← e]
        exact hu
      · cases h
  · rintro (h | h)
    · exact ⟨(p, q), h, .inl (by rw [if_pos rfl]; exact List.mem_cons_self)⟩
    · exact ⟨(q, p), h, .inr (by rw [if_pos rfl]; exact List.mem_cons_self)⟩
theorem nbrs_nodup {us : List Sd2} (hn : us.Nodup) (hl : ∀ u ∈ us, u.1 ≠ u.2) (ha : ∀ p q, (p, q) ∈ us → (q, p) ∉ us) (p : Pt) : (nbrs us p).Nodup := by
  induction us with
  | nil => exact List.Pairwise.nil
  | cons u r ih =>
    obtain ⟨n1, n2⟩ := List.nodup_cons.mp hn
    have ih := ih n2 (fun v hv => hl v (List.mem_cons_of_mem _ hv)) (fun a b h1 h2 => ha a b (List.mem_cons_of_mem _ h1) (List.mem_cons_of_mem _ h2))
    show (((if u.1 = p then [u.2] else []) ++ (if u.2 = p then [u.1] else [])) ++ nbrs r p).Nodup
    obtain ⟨a, b⟩ := u
    have ne := hl (a, b) List.mem_cons_self
    dsimp only at ne ⊢
    by_cases h1 : a = p
    · have h2 : b ≠ p := fun z => ne (h1.trans z.symm)
      rw [if_pos h1, if_neg h2]
      subst h1
      show (b :: nbrs r a).Nodup
      refine List.nodup_cons.mpr ⟨fun z => ?_, ih⟩
      rcases mem_nbrs.mp z with y | y
      · exact n1 y
      · exact ha b a (List.mem_cons_of_mem _ y) List.mem_cons_self
    · rw [if_neg h1]
      by_cases h2 : b = p
      · rw [if_pos h2]
        subst h2
        show (a :: nbrs r b).Nodup
        refine List.nodup_cons.mpr ⟨fun z => ?_, ih⟩
        rcases mem_nbrs.mp z with y | y
        · exact ha b a (List.mem_cons_of_mem _ y) List.mem_cons_self
        · exact n1 y
      · rw [if_neg h2]
        exact ih
/-- a list of just the rim's sides -/
structure IsRim (S : Cell → Bool) (us : List Sd2) : Prop where
  nd : us.Nodup
  mem : ∀ u, u ∈ us ↔ RimU S u
section
variable {S : Cell → Bool} {us : List Sd2} (ir : IsRim S us)
include ir
theorem rim_ne : ∀ u ∈ us, u.1 ≠ u.2 := fun u hu z => by
  obtain ⟨e, _, rfl⟩ := (ir.mem u).mp hu
  have := und_lt e
  rw [z] at this
  omega
theorem rim_as : ∀ p q, (p, q) ∈ us → (q, p) ∉ us := fun p q h1 h2 => by
  obtain ⟨e, _, he⟩ := (ir.mem _).mp h1
  obtain ⟨f, _, hf⟩ := (ir.mem _).mp h2
  have a := und_lt e
  have b := und_lt f
  rw [he] at a
  rw [hf] at b
  dsimp only at a b
  omega
theorem nbrs_nd (p : Pt) : (nbrs us p).Nodup := nbrs_nodup ir.nd (rim_ne ir) (rim_as ir) p
theorem mem_nb {p q : Pt} : q ∈ nbrs us p ↔ ∃ g, Rim S g ∧ ((tail g = p ∧ head g = q) ∨ (head g = p ∧ tail g = q)) := by
  rw [mem_nbrs, ir.mem, ir.mem]
  constructor
  · rintro (⟨e, he, hu⟩ | ⟨e, he, hu⟩)
    · refine ⟨e, he, ?_⟩
      rcases und_ends e with z | z
      · left
        rw [hu] at z
        exact ⟨(Prod.mk.inj z).1.symm, (Prod.mk.inj z).2.symm⟩
      · right
        rw [hu] at z
        exact ⟨(Prod.mk.inj z).1.symm, (Prod.mk.inj z).2.symm⟩
    · refine ⟨e, he, ?_⟩
      rcases und_ends e with z | z
      · right
        rw [hu] at z
        exact ⟨(Prod.mk.inj z).2.symm, (Prod.mk.inj z).1.symm⟩
      · left
        rw [hu] at z
        exact ⟨(Prod.mk.inj z).2.symm, (Prod.mk.inj z).1.symm⟩
  · rintro ⟨g, hg, ⟨rfl, rfl⟩ | ⟨rfl, rfl⟩⟩
    · rcases und_ends g with z | z
      · exact .inl ⟨g, hg, z⟩
      · exact .inr ⟨g, hg, z⟩
    · rcases und_ends g with z | z
      · exact .inr ⟨g, hg, z⟩
      · exact .inl ⟨g, hg, z⟩
/-- a point that is on some side is where a side begins -/
theorem key_tail {p : Pt} (h : nbrs us p ≠ []) : ∃ e, Rim S e ∧ tail e = p := by
  obtain ⟨q, hq⟩ := List.exists_mem_of_ne_nil _ h
  obtain ⟨g, hg, ⟨h1, _⟩ | ⟨h1, _⟩⟩ := (mem_nb ir).mp hq
  · exact ⟨g, hg, h1⟩
  · exact ⟨succ S g, succ_rim hg, by rw [tail_succ]; exact h1⟩
theorem nb_of (nd : ∀ a, ¬ Deg4 S a) {e : Side} (he : Rim S e) {q : Pt} : q ∈ nbrs us (tail e) ↔ q = head e ∨ q = tail (pred S e) := by
  rw [mem_nb ir]
  constructor
  · rintro ⟨g, hg, ⟨h1, h2⟩ | ⟨h1, h2⟩⟩
    · left
      rw [← h2, tail_inj nd hg he h1]
    · right
      have : g = pred S e := by
        refine head_inj nd hg (pred_rim he) ?_
        rw [h1, ← tail_succ (S := S), succ_pred he]
      rw [← h2, this]
  · rintro (rfl | rfl)
    · exact ⟨e, he, .inl ⟨rfl, rfl⟩⟩
    · refine ⟨pred S e, pred_rim he, .inr ⟨?_, rfl⟩⟩
      rw [← tail_succ (S := S), succ_pred he]
theorem head_ne_tail (e : Side) : head e ≠ tail e := by
  obtain ⟨⟨r, c⟩, s⟩ := e
  revert s
  refine fin4 _ ?_ ?_ ?_ ?_ <;> simp only [head, tail, Fin.reduceAdd, ne_eq, Prod.mk.injEq] <;> omega
end
end Sd

/-! The ring theorem, fifth part: the law's steps round. -/
namespace Sd
open Sd.J
/-- the law's steps round: how many until the first point is met again -/
def roundGo (us : List Sd2) (first : Pt) : Nat → Pt → Pt → Nat → Option Nat
  | 0, _, _, _ => none
  | k + 1, ahead, here, n =>
    if here = first then some n
    else match (nbrs us here).filter (fun q => !decide (q = ahead)) with
      | [] => none
      | q :: _ => roundGo us first k here q (n + 1)
theorem two_of {l : List Pt} {a b : Pt} (hn : l.Nodup) (hab : a ≠ b) (hm : ∀ q, q ∈ l ↔ q = a ∨ q = b) : l = [a, b] ∨ l = [b, a] := by
  have ha := (hm a).mpr (.inl rfl)
  have hb := (hm b).mpr (.inr rfl)
  match l, hn, hm, ha, hb with
  | [x], hn, hm, ha, hb =>
    have h1 : a = x := by simpa using ha
    have h2 : b = x := by simpa using hb
    exact absurd (h1.trans h2.symm) hab
  | [x, y], hn, hm, ha, hb =>
    have hxy : x ≠ y := by simpa using hn
    rcases (hm x).mp (by simp) with rfl | rfl
    · rcases (hm y).mp (by simp) with rfl | rfl
      · exact absurd rfl hxy
      · exact .inl rfl
    · rcases (hm y).mp (by simp) with rfl | rfl
      · exact .inr rfl
      · exact absurd rfl hxy
  | x :: y :: z :: r, hn, hm, ha, hb =>
    exfalso
    have := nodup_len (m := [a, b]) hn fun o ho => by
      rcases (hm o).mp ho with rfl | rfl <;> simp
    simp only [List.length_cons, List.length_nil] at this
    omega
theorem filter_two {l : List Pt} {a b : Pt} (hab : a ≠ b) (h : l = [a, b] ∨ l = [b, a]) : l.filter (fun q => !decide (q = a)) = [b] := by
  rcases h with rfl | rfl <;> simp [hab.symm]
theorem round_seq {us : List Sd2} {first : Pt} {p : Nat → Pt} {N : Nat} (pN : p N = first) (pk : ∀ k, 0 < k → k < N → p k ≠ first) (st : ∀ k, k + 1 < N → (nbrs us (p (k + 1))).filter (fun q => !decide (q = p k)) = [p (k + 2)]) : ∀ j k, k + 1 + j = N → ∀ f, j < f → roundGo us first f (p k) (p (k + 1)) (k + 1) = some N
  | 0, k, hk, f, hf => by
    obtain ⟨f, rfl⟩ : ∃ g, f = g + 1 := ⟨f - 1, by omega⟩
    unfold roundGo
    rw [if_pos (by rw [← pN, ← hk]), ← hk]
  | j + 1, k, hk, f, hf => by
    obtain ⟨f, rfl⟩ : ∃ g, f = g + 1 := ⟨f - 1, by omega⟩
    unfold roundGo
    rw [if_neg (pk (k + 1) (by omega) (by omega)), st k (by omega)]
    exact round_seq pN pk st j (k + 1) (by omega) f (by omega)
section
variable {S : Cell → Bool} {us : List Sd2} (ir : IsRim S us)
include ir
theorem head_ne_pred (nd : ∀ a, ¬ Deg4 S a) {e : Side} (he : Rim S e) : head e ≠ tail (pred S e) := fun z => by
  have hp : head (pred S e) = tail e := by rw [← tail_succ (S := S), succ_pred he]
  have : und e = und (pred S e) := by
    have l1 := und_lt e
    have l2 := und_lt (pred S e)
    rcases und_ends e with a | a <;> rcases und_ends (pred S e) with b | b <;> rw [a] at l1 ⊢ <;> rw [b] at l2 ⊢
    · rw [hp, ← z] at l2
      dsimp only at l1 l2
      omega
    · rw [hp, ← z]
    · rw [hp, ← z]
    · rw [hp, ← z] at l2
      dsimp only at l1 l2
      omega
  have e1 := und_rim he (pred_rim he) this
  rw [← e1] at hp
  exact head_ne_tail ir e hp
theorem nb_two (nd : ∀ a, ¬ Deg4 S a) {e : Side} (he : Rim S e) : nbrs us (tail e) = [head e, tail (pred S e)] ∨ nbrs us (tail e) = [tail (pred S e), head e] :=
  two_of (nbrs_nd ir _) (head_ne_pred ir nd he) fun q => nb_of ir nd he
theorem deg_len : (∀ a, ¬ Deg4 S a) ↔ ∀ p, nbrs us p ≠ [] → (nbrs us p).length = 2 := by
  constructor
  · intro nd p hp
    obtain ⟨e, he, rfl⟩ := key_tail ir hp
    rcases nb_two ir nd he with z | z <;> rw [z] <;> rfl
  · intro hl a d
    have three : ∀ {p q1 q2 q3 : Pt}, q1 ∈ nbrs us p → q2 ∈ nbrs us p → q3 ∈ nbrs us p → q1 ≠ q2 → q1 ≠ q3 → q2 ≠ q3 → False := fun {p q1 q2 q3} m1 m2 m3 n1 n2 n3 => by
      have := nodup_len (l := [q1, q2, q3]) (m := nbrs us p) (by simp [n1, n2, n3]) fun o ho => by
        simp only [List.mem_cons, List.not_mem_nil, or_false] at ho
        rcases ho with rfl | rfl | rfl <;> assumption
      rw [hl p (List.ne_nil_of_mem m1)] at this
      simp at this
    obtain ⟨d1, d2, d3⟩ := d
    obtain ⟨r, c⟩ := a
    cases e : S (r, c) with
    | true =>
      have b : S (nb (r, c) 1) = false := by
        cases z : S (nb (r, c) 1) with
        | false => rfl
        | true => exact absurd (e.trans z.symm) d3
      have m1 := (mem_nb ir (p := (r + 1, c + 1)) (q := (r, c + 1))).mpr ⟨((r, c), 1), ⟨e, b⟩, .inr ⟨rfl, rfl⟩⟩
      have m2 := (mem_nb ir (p := (r + 1, c + 1)) (q := (r + 1, c))).mpr ⟨((r, c), 2), ⟨e, d2.symm.trans b⟩, .inl ⟨rfl, rfl⟩⟩
      have m3 := (mem_nb ir (p := (r + 1, c + 1)) (q := (r + 1, c + 1 + 1))).mpr ⟨(nb (nb (r, c) 1) 2, 0), ⟨d1.symm.trans e, (by rw [nb_c0]; exact b)⟩, .inl ⟨rfl, rfl⟩⟩
      exact three m1 m2 m3 (by simp; omega) (by simp; omega) (by simp; omega)
    | false =>
      have b : S (nb (r, c) 1) = true := by
        cases z : S (nb (r, c) 1) with
        | false => exact absurd (e.trans z.symm) d3
        | true => rfl
      have m1 := (mem_nb ir (p := (r + 1, c + 1)) (q := (r + 1, c + 1 + 1))).mpr ⟨(nb (r, c) 1, 2), ⟨b, d1.symm.trans e⟩, .inr ⟨rfl, rfl⟩⟩
      have m2 := (mem_nb ir (p := (r + 1, c + 1)) (q := (r, c + 1))).mpr ⟨(nb (r, c) 1, 3), ⟨b, (by rw [nb_b3]; exact e)⟩, .inl ⟨rfl, rfl⟩⟩
      have m3 := (mem_nb ir (p := (r + 1, c + 1)) (q := (r + 1, c))).mpr ⟨(nb (r, c) 2, 0), ⟨d2.symm.trans b, (by rw [nb_d0]; exact e)⟩, .inr ⟨rfl, rfl⟩⟩
      exact three m1 m2 m3 (by simp; omega) (by simp; omega) (by simp; omega)
end
/-! ### periods -/
section
variable {S : Cell → Bool} {us : List Sd2} {h w : Nat}
/-- a side's least period -/
def Per (S : Cell → Bool) (e : Side) (N : Nat) : Prop := (0 < N ∧ it S e N = e) ∧ ∀ m, m < N → ¬ (0 < m ∧ it S e m = e)
theorem per_ex (hS : Within h w S) {e : Side} (he : Rim S e) : ∃ N, Per S e N := least (period hS he)
theorem per_inj {e : Side} (he : Rim S e) {N : Nat} (p : Per S e N) {i j : Nat} (hi : i < N) (hj : j < N) (h : it S e i = it S e j) : i = j := by
  have key : ∀ {i j : Nat}, i < j → j < N → it S e i ≠ it S e j := fun {i j} hij hj z => by
    have hb : j = i + (j - i) := by omega
    rw [hb] at z
    exact p.2 (j - i) (by omega) ⟨by omega, (it_back he i (j - i) z).symm⟩
  rcases Nat.lt_trichotomy i j with a | a | a
  · exact absurd h (key a hj)
  · exact a
  · exact absurd h.symm (key a hi)
theorem per_mod {e : Side} {N : Nat} (p : Per S e N) (i : Nat) : ∃ k, k < N ∧ it S e i = it S e k := by
  induction i with
  | zero => exact ⟨0, p.1.1, rfl⟩
  | succ i ih =>
    obtain ⟨k, hk, e1⟩ := ih
    by_cases hl : k + 1 < N
    · exact ⟨k + 1, hl, congrArg (succ S) e1⟩
    · refine ⟨0, p.1.1, ?_⟩
      show succ S (it S e i) = e
      rw [e1]
      show it S e (k + 1) = e
      rw [show k + 1 = N by omega]
      exact p.1.2
theorem per_nodup {e : Side} (he : Rim S e) {N : Nat} (p : Per S e N) : ((List.range N).map (it S e)).Nodup := by
  unfold List.Nodup
  rw [List.pairwise_map]
  refine List.pairwise_iff_getElem.mpr fun i j hi hj hij z => ?_
  rw [List.getElem_range, List.getElem_range] at z
  rw [List.length_range] at hi hj
  have := per_inj he p hi hj z
  omega
theorem orbit_from {e : Side} (he : Rim S e) {N : Nat} (p : Per S e N) (all : ∀ f, Rim S f → ∃ i, i < N ∧ f = it S e i) : OneOrbit S := fun a f ha hf => by
  obtain ⟨i, hi, rfl⟩ := all a ha
  obtain ⟨j, hj, rfl⟩ := all f hf
  refine ⟨N - i + j, ?_⟩
  rw [← it_add, show i + (N - i + j) = N + j by omega, it_add, p.1.2]
theorem per_len (ir : IsRim S us) {e : Side} (he : Rim S e) {N : Nat} (p : Per S e N) : N ≤ us.length ∧ (N = us.length ↔ OneOrbit S) := by
  have nd : (((List.range N).map (it S e)).map und).Nodup := by
    have h0 := per_nodup he p
    unfold List.Nodup at h0 ⊢
    rw [List.pairwise_map]
    refine List.Pairwise.imp_of_mem (fun {a b} ha hb n z => ?_) h0
    obtain ⟨i, _, rfl⟩ := List.mem_map.mp ha
    obtain ⟨j, _, rfl⟩ := List.mem_map.mp hb
    exact n (und_rim (it_rim he i) (it_rim he j) z)
  have sub : ∀ o ∈ ((List.range N).map (it S e)).map und, o ∈ us := fun o ho => by
    obtain ⟨f, hf, rfl⟩ := List.mem_map.mp ho
    obtain ⟨i, _, rfl⟩ := List.mem_map.mp hf
    exact (ir.mem _).mpr ⟨_, it_rim he i, rfl⟩
  have le := nodup_len nd sub
  rw [List.length_map, List.length_map, List.length_range] at le
  refine ⟨le, fun hN => ?_, fun one => ?_⟩
  · refine orbit_from he p fun f hf => ?_
    have fu : und f ∈ us := (ir.mem _).mpr ⟨f, hf, rfl⟩
    have fin : und f ∈ ((List.range N).map (it S e)).map und := Classical.byContradiction fun hn => by
      have := nodup_len (l := und f :: ((List.range N).map (it S e)).map und) (m := us) (List.nodup_cons.mpr ⟨hn, nd⟩) fun o ho => by
        rcases List.mem_cons.mp ho with rfl | ho
        · exact fu
        · exact sub o ho
      rw [List.length_cons, List.length_map, List.length_map, List.length_range] at this
      omega
    obtain ⟨g, hg, eg⟩ := List.mem_map.mp fin
    obtain ⟨i, hi, rfl⟩ := List.mem_map.mp hg
    exact ⟨i, List.mem_range.mp hi, (und_rim (it_rim he i) hf eg).symm⟩
  · have := nodup_len (l := us) (m := ((List.range N).map (it S e)).map und) ir.nd fun o ho => by
      obtain ⟨f, hf, rfl⟩ := (ir.mem o).mp ho
      obtain ⟨i, hi⟩ := one e f he hf
      obtain ⟨k, hk, e2⟩ := per_mod p i
      exact List.mem_map.mpr ⟨f, List.mem_map.mpr ⟨k, List.mem_range.mpr hk, by rw [hi, e2]⟩, rfl⟩
    rw [List.length_map, List.length_map, List.length_range] at this
    omega
/-- the law's steps come round -/
theorem round_ok (hS : Within h w S) (ir : IsRim S us) (nd : ∀ a, ¬ Deg4 S a) {first q : Pt} {r : List Pt} (hq : nbrs us first = q :: r) : ∃ N, roundGo us first (us.length + 1) first q 1 = some N ∧ N ≤ us.length ∧ (N = us.length ↔ OneOrbit S) := by
  obtain ⟨e, he, rfl⟩ := key_tail ir (p := first) (by rw [hq]; exact List.cons_ne_nil _ _)
  obtain ⟨N, p⟩ := per_ex hS he
  obtain ⟨le, iff⟩ := per_len ir he p
  have N0 := p.1.1
  refine ⟨N, ?_, le, iff⟩
  have hback : ∀ k, k < N → it S e (N - k) = succ S (it S e (N - k - 1)) := fun k hk => by
    have : N - k = N - k - 1 + 1 := by omega
    rw [show it S e (N - k) = it S e (N - k - 1 + 1) from congrArg _ this]
    rfl
  rcases nb_two ir nd he with z | z
  · have e1 : q = head e := by rw [hq] at z; exact (List.cons.inj z).1
    have := round_seq (us := us) (first := tail e) (p := fun k => tail (it S e k)) (N := N) (by rw [p.1.2]) (fun k k0 kN z => p.2 k kN ⟨k0, tail_inj nd (it_rim he k) he z⟩) (fun k hk => by
      have hr := it_rim he (k + 1)
      have t := nb_two ir nd hr
      have pp : pred S (it S e (k + 1)) = it S e k := pred_succ (it_rim he k)
      have ne := head_ne_pred ir nd hr
      rw [pp] at t ne
      have hh : head (it S e (k + 1)) = tail (it S e (k + 2)) := (tail_succ (S := S) (it S e (k + 1))).symm
      rw [hh] at t ne
      exact filter_two ne.symm t.symm) (N - 1) 0 (by omega) (us.length + 1) (by omega)
    rw [e1, ← tail_succ (S := S)]
    exact this
  · have e1 : q = tail (pred S e) := by rw [hq] at z; exact (List.cons.inj z).1
    have e2 : pred S e = it S e (N - 1) := by
      have := hback 0 N0
      rw [Nat.sub_zero, p.1.2] at this
      have h3 := pred_succ (S := S) (it_rim he (N - 1))
      rw [← this] at h3
      exact h3
    have := round_seq (us := us) (first := tail e) (p := fun k => tail (it S e (N - k))) (N := N) (by rw [Nat.sub_self]; rfl) (fun k k0 kN z => p.2 (N - k) (by omega) ⟨by omega, tail_inj nd (it_rim he _) he z⟩) (fun k hk => by
      have hr := it_rim he (N - (k + 1))
      have t := nb_two ir nd hr
      have ne := head_ne_pred ir nd hr
      have pp : pred S (it S e (N - (k + 1))) = it S e (N - (k + 2)) := by
        rw [hback (k + 1) hk]
        exact pred_succ (it_rim he _)
      have hh : head (it S e (N - (k + 1))) = tail (it S e (N - k)) := by
        rw [hback k (by omega)]
        exact (tail_succ (S := S) _).symm
      rw [pp, hh] at t ne
      exact filter_two ne t) (N - 1) 0 (by omega) (us.length + 1) (by omega)
    rw [Nat.sub_zero, p.1.2, Nat.zero_add, ← e2] at this
    rw [e1]
    exact this
end
/-! ### cells -/
theorem head_mem {cs : List Int} (hc : cs ≠ []) : cs.headD 0 ∈ cs := by
  cases cs with
  | nil => exact absurd rfl hc
  | cons a r => exact List.mem_cons_self
theorem head_least {cs : List Int} (hr : cs.Pairwise (· < ·)) : ∀ o ∈ cs, cs.headD 0 ≤ o := fun o ho => by
  cases cs with
  | nil => cases ho
  | cons a r =>
    show a ≤ o
    rcases List.mem_cons.mp ho with rfl | ho
    · exact Int.le_refl _
    · have := (List.pairwise_cons.mp hr).1 o ho
      omega
/-- the first cell's upper side is on the rim -/
theorem first_rim {h w : Nat} (gk : GOk h w) {cs : List Int} (ck : COk h w cs) : Rim (Sc h w cs) (cellOf w (cs.headD 0), 0) := by
  have hm := head_mem ck.1
  have hb := ck.2.1 _ hm
  refine ⟨sc_iff.mpr ⟨cell_inG gk hb.1 hb.2, (by rw [idx_cell gk]; exact hm)⟩, ?_⟩
  cases e : Sc h w cs (nb (cellOf w (cs.headD 0)) 0) with
  | false => rfl
  | true =>
    exfalso
    have h1 := head_least ck.2.2 _ (sc_iff.mp e).2
    have h2 := idx_cell gk (cs.headD 0)
    unfold idx at h1 h2
    simp only [nb] at h1
    have := gk.2.2.1
    rw [Int.sub_mul] at h1
    omega
end Sd

/-! Rules of our own: dicts whose keys are nested tuples of whole numbers. -/
namespace Sd
open PySem L2 Evl PySem.Spec PyProof.Rows
/-! ### keys as the abstract heap knows them -/
mutual
inductive NK (H : Hp) : NestedKey → V → Prop
  | num (i : Int) : NK H (.num i) (.int i)
  | tup {a : Addr} {vs : List V} {ks : List NestedKey} : H a = some (.tup vs) → NKs H ks vs → NK H (.tup ks) (.ref a)
inductive NKs (H : Hp) : List NestedKey → List V → Prop
  | nil : NKs H [] []
  | cons {k : NestedKey} {v : V} {ks : List NestedKey} {vs : List V} : NK H k v → NKs H ks vs → NKs H (k :: ks) (v :: vs)
end
mutual
theorem NK.mono {H H' : Hp} (e : Ex H H') : ∀ {k : NestedKey} {v : V}, NK H k v → NK H' k v
  | _, _, .num i => .num i
  | _, _, .tup h hs => .tup (e _ _ h) (NKs.mono e hs)
theorem NKs.mono {H H' : Hp} (e : Ex H H') : ∀ {ks : List NestedKey} {vs : List V}, NKs H ks vs → NKs H' ks vs
  | _, _, .nil => .nil
  | _, _, .cons h hs => .cons (NK.mono e h) (NKs.mono e hs)
end
mutual
theorem NK.is {P : Program} {w : World} {H : Hp} {h : Heap} (ok : HOk P w H h) : ∀ {k : NestedKey} {v : V} {u : Value}, NK H k v → RelV v u → NestedIs h k u
  | _, _, u, .num i, r => by
    obtain ⟨t, e⟩ := (show ∃ t, u = Value.int i t from r)
    subst e
    exact .int i t
  | _, _, u, @NK.tup _ a vs ks ha hs, r => by
    cases (show u = Value.ref a from r)
    obtain ⟨_, its, rv, o, h1, h2, n, h3⟩ := (show ObjOk P w H h a (.tup vs) from ok a _ ha)
    exact .tup h1 h2 h3 (NKs.is ok hs rv)
theorem NKs.is {P : Program} {w : World} {H : Hp} {h : Heap} (ok : HOk P w H h) : ∀ {ks : List NestedKey} {vs : List V} {us : List Value}, NKs H ks vs → Vals vs us → NestedAll h ks us
  | _, _, _, .nil, .nil => .nil
  | _, _, _, .cons k ks, .cons r rs => .cons (NK.is ok k r) (NKs.is ok ks rs)
end
/-- an entry: its key, where the key's tuple stands, its value -/
abbrev Ent := NestedKey × Addr × V
def RelE (p : Ent) (q : NestedKey × Addr × Value) : Prop := p.1 = q.1 ∧ p.2.1 = q.2.1 ∧ RelV p.2.2 q.2.2
def entW (w : World) (x : NestedKey × Addr × Value) : DictEntry := ⟨x.1.hash w, .ref x.2.1, x.2.2⟩
def dnP (w : World) (d : Addr) (kas : List Ent) : Heap → Prop := fun h => kas.length ≤ sizeLine ∧ (d == sysModules) = false ∧ ∃ xs, Paired RelE kas xs ∧ ∃ o es ep, h.get? d = some o ∧ o.ExactDict ∧ o.data = .dict es ep ∧ es.toList = xs.map (entW w) ∧ (xs.map (·.1)).Nodup
/-- the dict at d with these entries -/
def DN (w : World) (d : Addr) (kas : List Ent) : HO := .ext (dnP w d kas)
def Keys (H : Hp) (kas : List Ent) : Prop := ∀ e ∈ kas, NK H e.1 (.ref e.2.1) ∧ e.1.depth ≤ 8
theorem Keys.mono {H H' : Hp} {kas : List Ent} (e : Ex H H') (h : Keys H kas) : Keys H' kas := fun x hx => ⟨(h x hx).1.mono e, (h x hx).2⟩
theorem dn_ok {P : Program} {w : World} {H : Hp} {h : Heap} {d : Addr} {kas : List Ent} (p : dnP w d kas h) : ObjOk P w H h d (DN w d kas) := by
  refine ⟨p, ?_, fun h1 h2 q k => ?_⟩
  · obtain ⟨_, _, _, _, o, _, _, e, _⟩ := p
    exact ⟨o, e⟩
  · obtain ⟨a, b, xs, c, o, es, ep, e, r⟩ := q
    exact ⟨a, b, xs, c, o, es, ep, k o e, r⟩
theorem keys_is {P : Program} {w : World} {H : Hp} {h : Heap} (ok : HOk P w H h) : ∀ {kas : List Ent} {xs : List (NestedKey × Addr × Value)}, Paired RelE kas xs → Keys H kas → ∀ x ∈ xs, (nestedKind P w).is h x.1 x.2.1
  | _, _, .nil, _, x, hx => nomatch hx
  | p :: ps, q :: qs, .cons r t, hk, x, hx => by
    rcases List.mem_cons.mp hx with rfl | hx
    · have := hk p List.mem_cons_self
      refine ⟨?_, by rw [← r.1]; exact this.2⟩
      rw [← r.1, ← r.2.1]
      exact this.1.is ok rfl
    · exact keys_is ok t (fun e he => hk e (List.mem_cons_of_mem _ he)) x hx
theorem dn_rd {P : Program} {w : World} {H : Hp} {h : Heap} {d : Addr} {kas : List Ent} (ok : HOk P w H h) (e : Rd H d (DN w d kas)) (hk : Keys H kas) : kas.length ≤ sizeLine ∧ (d == sysModules) = false ∧ ∃ xs, Paired RelE kas xs ∧ h.DictOfH (nestedKind P w) d xs := by
  have x : ObjOk P w H h d (DN w d kas) := by
    rcases e with e | ⟨o, e⟩
    · exact ok d _ e
    · exact (ok d _ e).2
  obtain ⟨⟨a, b, xs, r, o, es, ep, h1, h2, h3, h4, h5⟩, _⟩ := x
  exact ⟨a, b, xs, r, o, es, ep, h1, h2, h3, h4, keys_is ok r hk, h5⟩
def valE (kas : List Ent) (k : NestedKey) : Option V := (kas.find? fun x => decide (x.1 = k)).map (·.2.2)
def putE (kas : List Ent) (k : NestedKey) (a : Addr) (v : V) : List Ent := if (valE kas k).isSome = true then kas.map fun x => if x.1 = k then (x.1, x.2.1, v) else x else kas ++ [(k, a, v)]
theorem rel_val : ∀ {kas : List Ent} {xs : List (NestedKey × Addr × Value)} (k : NestedKey), Paired RelE kas xs → RelO (valE kas k) ((atKey xs k).map (·.2))
  | _, _, _, .nil => True.intro
  | p :: ps, q :: qs, k, .cons r t => by
    unfold valE atKey
    rw [List.find?_cons, List.find?_cons]
    by_cases h : p.1 = k
    · have h' : q.1 = k := by rw [← r.1]; exact h
      simp only [h, h', decide_true]
      exact r.2.2
    · have h' : ¬ q.1 = k := by rw [← r.1]; exact h
      simp only [h, h', decide_false]
      exact rel_val k t
theorem rel_some {kas : List Ent} {xs : List (NestedKey × Addr × Value)} (k : NestedKey) (h : Paired RelE kas xs) : (valE kas k).isSome = (atKey xs k).isSome := by
  have := rel_val k h
  cases h1 : valE kas k <;> cases h2 : atKey xs k
  · rfl
  · rw [h1, h2] at this; exact (show False from this).elim
  · rw [h1, h2] at this; exact (show False from this).elim
  · rfl
theorem rel_map {k : NestedKey} {v : V} {u : Value} (rv : RelV v u) : ∀ {kas : List Ent} {xs : List (NestedKey × Addr × Value)}, Paired RelE kas xs → Paired RelE (kas.map fun x => if x.1 = k then (x.1, x.2.1, v) else x) (xs.map (putAt k u))
  | _, _, .nil => .nil
  | p :: ps, q :: qs, .cons r t => by
    refine .cons ?_ (rel_map rv t)
    unfold putAt
    dsimp only
    by_cases h : p.1 = k
    · have h' : q.1 = k := by rw [← r.1]; exact h
      rw [if_pos h, if_pos h']
      exact ⟨r.1, r.2.1, rv⟩
    · have h' : ¬ q.1 = k := by rw [← r.1]; exact h
      rw [if_neg h, if_neg h']
      exact r
theorem pair_snoc {α β : Type} {F : α → β → Prop} : ∀ {l : List α} {m : List β} {a : α} {b : β}, Paired F l m → F a b → Paired F (l ++ [a]) (m ++ [b])
  | [], [], _, _, .nil, h => .cons h .nil
  | _ :: _, _ :: _, _, _, .cons g gs, h => .cons g (pair_snoc gs h)
theorem rel_put {k : NestedKey} {a : Addr} {v : V} {u : Value} (rv : RelV v u) {kas : List Ent} {xs : List (NestedKey × Addr × Value)} (h : Paired RelE kas xs) : Paired RelE (putE kas k a v) (storedH xs k a u) := by
  unfold putE storedH
  rw [rel_some k h]
  split
  · exact rel_map rv h
  · exact pair_snoc h ⟨rfl, rfl, rv⟩
theorem putE_len (kas : List Ent) (k : NestedKey) (a : Addr) (v : V) : (putE kas k a v).length ≤ kas.length + 1 := by
  unfold putE
  split
  · rw [List.length_map]; omega
  · rw [List.length_append]; simp
theorem putE_keys {H : Hp} {kas : List Ent} {k : NestedKey} {a : Addr} {v : V} (h : Keys H kas) (hk : NK H k (.ref a)) (hd : k.depth ≤ 8) : Keys H (putE kas k a v) := fun e he => by
  unfold putE at he
  split at he
  · obtain ⟨x, hx, rfl⟩ := List.mem_map.mp he
    have := h x hx
    split
    · exact this
    · exact this
  · rcases List.mem_append.mp he with he | he
    · exact h e he
    · have : e = (k, a, v) := by simpa using he
      rw [this]
      exact ⟨hk, hd⟩
section
variable {X : Cx} {pins : List (Addr × Obj)} {σ : L2.St} {H : Hp} {s : Shared} {d a : Addr} {k : NestedKey} {kas : List Ent} {v : V} {r : Value} {A : Around} {E : Value → Shared → Prop}
theorem dn_key (I : Inv X pins σ H s) (hk : NK H k (.ref a)) (hd : k.depth ≤ 8) : (nestedKind X.prog X.w).is s.heap k a := ⟨hk.is I.hok rfl, hd⟩
theorem dn_get {Q : Value → Shared → Prop} (hu : A.units + 60 < cLine) (I : Inv X pins σ H s) (e : Rd H d (DN X.w d kas)) (ks : Keys H kas) (hk : NK H k (.ref a)) (hd : k.depth ≤ 8) (hv : valE kas k = some v) (h : ∀ u s', Inv X pins σ H s' → RelV v u → Q u s') :
    wpAny (model X.prog X.w) A (getItem (.ref d) (.ref a)) Q E s := by
  obtain ⟨z, hs, xs, rel, dd⟩ := dn_rd (P := X.prog) (w := X.w) I.hok e ks
  obtain ⟨u, hw, ru⟩ := RelO.some_of (v := v) (o := (atKey xs k).map (·.2)) (by rw [← hv]; exact rel_val k rel)
  obtain ⟨p, hp, hp2⟩ := Option.map_eq_some_iff.mp hw
  refine wpAny_getItem_heap (show A.units + 1 + 8 < cLine by omega) (dn_key I hk hd) dd hp ?_
  rw [hp2]
  exact h u _ (I.tok _) ru
theorem dn_get2 {x : V} {Q : Value → Shared → Prop} (hu : A.units + 60 < cLine) (I : Inv X pins σ H s) (e : Rd H d (DN X.w d kas)) (ks : Keys H kas) (hk : NK H k (.ref a)) (hd : k.depth ≤ 8) (rx : RelV x r) (h : ∀ u s', Inv X pins σ H s' → RelV ((valE kas k).getD x) u → Q u s') :
    wpAny (model X.prog X.w) A (call (.builtin "dict.get") [.ref d, .ref a, r]) Q E s := by
  obtain ⟨z, hs, xs, rel, dd⟩ := dn_rd (P := X.prog) (w := X.w) I.hok e ks
  refine getOr_keyed (knd := nestedKind X.prog X.w) (kvs := pairsH xs) (k := k) (show A.units + 1 + 8 < cLine by omega) (dn_key I hk hd) hs ⟨xs, dd, rfl⟩ ?_
  rw [valueAt_pairsH]
  refine h _ _ (I.tok _) ?_
  have q := rel_val k rel
  cases h1 : valE kas k <;> cases h2 : atKey xs k
  · exact rx
  · rw [h1, h2] at q; exact (show False from q).elim
  · rw [h1, h2] at q; exact (show False from q).elim
  · rw [h1, h2] at q; exact q
theorem dn_new {h' : Heap} {xs : List (NestedKey × Addr × Value)} {kas' : List Ent} (hl : kas'.length ≤ sizeLine) (hs : (d == sysModules) = false) (rel : Paired RelE kas' xs) (dd : h'.DictOfH (nestedKind X.prog X.w) d xs) : dnP X.w d kas' h' := by
  obtain ⟨o, es, ep, h1, h2, h3, h4, _, h5⟩ := dd
  exact ⟨hl, hs, xs, rel, o, es, ep, h1, h2, h3, h4, h5⟩
theorem dn_set {Q : Unit → Shared → Prop} (hu : A.units + 60 < cLine) (I : Inv X pins σ H s) (e : H d = some (DN X.w d kas)) (ks : Keys H kas) (hk : NK H k (.ref a)) (hd : k.depth ≤ 8) (hl : kas.length < sizeLine) (rv : RelV v r) (h : ∀ s', Inv X pins σ (upd H d (DN X.w d (putE kas k a v))) s' → Q () s') :
    wpAny (model X.prog X.w) A (setItem (.ref d) (.ref a) r) Q E s := by
  obtain ⟨z, hs, xs, rel, dd⟩ := dn_rd (P := X.prog) (w := X.w) I.hok (.inl e) ks
  have hz : xs.length ≤ sizeLine := by rw [← Paired.length rel]; exact z
  refine wpAny_setItem_heap (hsz := hz) (show A.units + 1 + 8 < cLine by omega) (dn_key I hk hd) dd fun h' dd' hs' => h _ ?_
  have he : ∃ q, h'.get? d = some q := let ⟨q, _, _, hq, _⟩ := dd'; ⟨q, hq⟩
  exact I.write (x := d) (e := d) (by rw [e]; exact True.intro) (.inl rfl) (fun b q hb z => (hs'.2 b hb).trans z) he (dn_ok (dn_new (by have := putE_len kas k a v; omega) hs (rel_put rv rel) dd'))
theorem dn_setd {x : V} {Q : Value → Shared → Prop} (hu : A.units + 60 < cLine) (I : Inv X pins σ H s) (e : H d = some (DN X.w d kas)) (ks : Keys H kas) (hk : NK H k (.ref a)) (hd : k.depth ≤ 8) (hl : kas.length < sizeLine) (rx : RelV x r)
    (h1 : ∀ v, valE kas k = some v → ∀ u s', Inv X pins σ H s' → RelV v u → Q u s') (h2 : valE kas k = none → ∀ s', Inv X pins σ (upd H d (DN X.w d (putE kas k a x))) s' → Q r s') :
    wpAny (model X.prog X.w) A (call (.builtin "dict.setdefault") [.ref d, .ref a, r]) Q E s := by
  obtain ⟨z, hs, xs, rel, dd⟩ := dn_rd (P := X.prog) (w := X.w) I.hok (.inl e) ks
  have hz : xs.length ≤ sizeLine := by rw [← Paired.length rel]; exact z
  have q := rel_val k rel
  refine call_setdefault_heap (hsz := hz) (show A.units + 1 + 8 < cLine by omega) (dn_key I hk hd) hs dd (fun p hp => ?_) fun hn h' dd' hs' => ?_
  · rw [hp] at q
    cases hv : valE kas k with
    | none => rw [hv] at q; exact (show False from q).elim
    | some v =>
      rw [hv] at q
      exact h1 v hv _ _ (I.tok _) q
  · rw [hn] at q
    cases hv : valE kas k with
    | some v => rw [hv] at q; exact (show False from q).elim
    | none =>
      have he : ∃ q, h'.get? d = some q := let ⟨q, _, _, hq, _⟩ := dd'; ⟨q, hq⟩
      exact h2 hv _ (I.write (x := d) (e := d) (by rw [e]; exact True.intro) (.inl rfl) (fun b q hb z => (hs'.2 b hb).trans z) he (dn_ok (dn_new (by have := putE_len kas k a x; omega) hs (rel_put rx rel) dd')))
theorem dn_at (I : Inv X pins σ H s) (e : Rd H d (DN X.w d kas)) : s.TypeIs (.ref d) "dict" ∧ (∀ b, Value.ref d = .ref b → ∃ ob, s.heap.get? b = some ob ∧ ob.dict = none) := by
  have x : ObjOk X.prog X.w H s.heap d (DN X.w d kas) := by
    rcases e with e | ⟨o, e⟩
    · exact I.hok d _ e
    · exact (I.hok d _ e).2
  obtain ⟨⟨_, _, xs, _, o, es, ep, h1, h2, _⟩, _⟩ := x
  exact ⟨⟨o, h1, h2.1⟩, fun b q => by cases q; exact ⟨o, h1, h2.2.1⟩⟩
end
/-! ### readings and rules -/
def tDNew (w : World) : TE := fun σ H Q => ∀ p, H p = none → Q (.ref p) (upd H p (DN w p []))
def tGetN (w : World) (td ty : TE) : TE := fun σ H Q => td σ H fun x H1 => ty σ H1 fun y H2 => ∃ d kas k a v, x = .ref d ∧ y = .ref a ∧ Rd H2 d (DN w d kas) ∧ Keys H2 kas ∧ NK H2 k (.ref a) ∧ k.depth ≤ 8 ∧ valE kas k = some v ∧ Q v H2
def tGet2N (w : World) (td ty tx : TE) : TE := fun σ H Q => td σ H fun x H1 => ∃ d kas0, x = .ref d ∧ Rd H1 d (DN w d kas0) ∧ ty σ H1 fun y H2 => tx σ H2 fun z H3 => ∃ kas k a, y = .ref a ∧ Rd H3 d (DN w d kas) ∧ Keys H3 kas ∧ NK H3 k (.ref a) ∧ k.depth ≤ 8 ∧ Q ((valE kas k).getD z) H3
def sPutN (w : World) (td ty tv : TE) : TS := fun D σ H => tv σ H fun v H1 => td σ H1 fun x H2 => ty σ H2 fun y H3 => ∃ d kas k a, x = .ref d ∧ y = .ref a ∧ H3 d = some (DN w d kas) ∧ Keys H3 kas ∧ NK H3 k (.ref a) ∧ k.depth ≤ 8 ∧ kas.length < sizeLine ∧ D.nx σ (upd H3 d (DN w d (putE kas k a v)))
def tSetdN (w : World) (td ty tx : TE) : TE := fun σ H Q => td σ H fun x H1 => ∃ d kas0, x = .ref d ∧ Rd H1 d (DN w d kas0) ∧ ty σ H1 fun y H2 => tx σ H2 fun z H3 => ∃ kas k a, y = .ref a ∧ H3 d = some (DN w d kas) ∧ Keys H3 kas ∧ NK H3 k (.ref a) ∧ k.depth ≤ 8 ∧ kas.length < sizeLine ∧
  (∀ v, valE kas k = some v → Q v H3) ∧ (valE kas k = none → Q z (upd H3 d (DN w d (putE kas k a z))))
section
variable {X : Cx} {o e f i value : Expr} {td ty tx tv : TE} {pos pos' apos cpos : Pos}
theorem pe_dnewN : PE X (.Dict [] [] pos) (tDNew X.w) := ⟨fun pins s σ H Q I h => by
  refine wpAny_Dict_empty ⟨.ref s.heap.objs.size, _, I.laid (a := s.heap.objs.size) (o := DN X.w s.heap.objs.size []) (t' := s.toks) (fun _ _ q => Heap.get?_push_of_some _ q) (Nat.le_refl _) (dn_ok ?_), rfl, h _ (I.hok.fresh (Nat.le_refl _))⟩
  have hb := I.big
  refine ⟨Nat.zero_le _, ?_, [], .nil, { cls := .type "dict", data := .dict #[] }, #[], _, Heap.get?_push_size _ rfl, ⟨rfl, rfl, rfl⟩, rfl, rfl, List.Pairwise.nil⟩
  exact beq_eq_false_iff_ne.mpr (fun z => by rw [z] at hb; exact Nat.lt_irrefl _ hb)⟩
theorem pe_getN (hu : X.A.units + 60 < cLine) (ho : PE X o td) (hi : PE X i ty) (hs : NoSl i) : PE X (.Subscript o i pos) (tGetN X.w td ty) := by
  refine ⟨fun pins s σ H Q I h => ?_⟩
  refine subD_of PySem.F.slot_dict_getitem.lookup hs (thn (ho.run pins s σ H _ I h) fun u s1 ⟨x, H1, I1, rx, q1⟩ => thn (hi.run pins s1 σ H1 _ I1 q1) fun iv s2 ⟨y, H2, I2, ry, d, kas, k, a, v, ex, ey, hd, hk, hn, hdp, hv, q2⟩ => ?_)
  subst ex ey
  obtain rfl : u = Value.ref d := rx
  obtain rfl : iv = Value.ref a := ry
  exact ⟨(dn_at I2 hd).1, dn_get hu I2 hd hk hn hdp hv fun w' s3 I3 rw' => ⟨v, H2, I3, rw', q2⟩⟩
theorem pe_get2N (hu : X.A.units + 60 < cLine) (ho : PE X o td) (he : PE X e ty) (hf : PE X f tx) (m : M2 X o "get" apos e f cpos) : PE X (.Call (.Attribute o "get" apos) [e, f] [] cpos) (tGet2N X.w td ty tx) := by
  refine ⟨fun pins s σ H Q I h => ?_⟩
  refine wpAny_Call_method m.base m.few m.line PySem.F.plainAttrs_dict PySem.F.slot_dict_get PySem.F.type_dict_get (thn (ho.run pins s σ H _ I h) fun u s1 ⟨x, H1, I1, rx, d, kas0, ex, hd0, q1⟩ => ?_)
  subst ex
  obtain rfl : u = Value.ref d := rx
  obtain ⟨t1, t2⟩ := dn_at I1 hd0
  refine ⟨t1, t2, ?_⟩
  rw [m.trees]
  refine Calls.callWith_builtin rfl (Calls.evalArgs_plain (Calls.spliced_cons (thn (he.run pins s1 σ H1 _ I1 q1) fun iv s2 ⟨y, H2, I2, ry, q2⟩ =>
    Calls.spliced_cons (thn (hf.run pins s2 σ H2 _ I2 q2) fun fv s3 ⟨z, H3, I3, rz, kas, k, a, ey, hd, hk, hn, hdp, q3⟩ => Calls.spliced_nil ?_))))
  subst ey
  obtain rfl : iv = Value.ref a := ry
  exact dn_get2 hu I3 hd hk hn hdp rz fun w' s4 I4 rw' => ⟨_, H3, I4, rw', q3⟩
theorem ps_putN (hu : X.A.units + 60 < cLine) (ho : PE X o td) (hi : PE X i ty) (hv : PE X value tv) (hs : swapsWith value (some (.Subscript o i pos')) pos.line X.env = pure false) :
    PS X (.Assign [.Subscript o i pos'] value pos) (sPutN X.w td ty tv) := by
  refine ⟨fun pins s σ H D I h => ?_⟩
  refine wpAny_Assign_Subscript (thn (hv.run pins s σ H _ I h) fun r s1 ⟨v, H1, I1, rv, q1⟩ => thn (ho.run pins s1 σ H1 _ I1 q1) fun u s2 ⟨x, H2, I2, rx, q2⟩ => thn (hi.run pins s2 σ H2 _ I2 q2) fun iv s3 ⟨y, H3, I3, ry, d, kas, k, a, ex, ey, hd, hk, hn, hdp, hl, q3⟩ => ?_) hs
  subst ex ey
  obtain rfl : u = Value.ref d := rx
  obtain rfl : iv = Value.ref a := ry
  exact dn_set hu I3 hd hk hn hdp hl rv fun s4 I4 => ⟨σ, _, I4, q3⟩
theorem pe_setdN (hu : X.A.units + 60 < cLine) (ho : PE X o td) (he : PE X e ty) (hf : PE X f tx) (m : M2 X o "setdefault" apos e f cpos) : PE X (.Call (.Attribute o "setdefault" apos) [e, f] [] cpos) (tSetdN X.w td ty tx) := by
  refine ⟨fun pins s σ H Q I h => ?_⟩
  refine wpAny_Call_method m.base m.few m.line PySem.F.plainAttrs_dict PySem.F.slot_dict_setdefault PySem.F.type_dict_setdefault (thn (ho.run pins s σ H _ I h) fun u s1 ⟨x, H1, I1, rx, d, kas0, ex, hd0, q1⟩ => ?_)
  subst ex
  obtain rfl : u = Value.ref d := rx
  obtain ⟨t1, t2⟩ := dn_at I1 hd0
  refine ⟨t1, t2, ?_⟩
  rw [m.trees]
  refine Calls.callWith_builtin rfl (Calls.evalArgs_plain (Calls.spliced_cons (thn (he.run pins s1 σ H1 _ I1 q1) fun iv s2 ⟨y, H2, I2, ry, q2⟩ =>
    Calls.spliced_cons (thn (hf.run pins s2 σ H2 _ I2 q2) fun fv s3 ⟨z, H3, I3, rz, kas, k, a, ey, hd, hk, hn, hdp, hl, q3, q4⟩ => Calls.spliced_nil ?_))))
  subst ey
  obtain rfl : iv = Value.ref a := ry
  exact dn_setd hu I3 hd hk hn hdp hl rz (fun v hv w' s4 I4 rw' => ⟨v, _, I4, rw', q3 v hv⟩) fun hv s4 I4 => ⟨z, _, I4, rz, q4 hv⟩
end
/-! ### for k in d, list(d) -/
def ItN (w : World) (d : Addr) (o : Obj) (kas : List Ent) : It :=
  ⟨fun i H => H d = some (.frz o (DN w d kas)) ∧ i < kas.length, fun i H x H' => H' = H ∧ ∃ e : Ent, kas[i]? = some e ∧ x = .ref e.2.1, fun i H => H d = some (.frz o (DN w d kas)) ∧ kas.length ≤ i⟩
section
variable {X : Cx} {pins : List (Addr × Obj)} {σ : L2.St} {H : Hp} {s : Shared} {d : Addr} {o : Obj}
theorem frzN {kas : List Ent} (I : Inv X pins σ H s) (h : H d = some (.frz o (DN X.w d kas))) :
    (d == sysModules) = false ∧ s.heap.get? d = some o ∧ o.ExactDict ∧ ∃ (es : Array DictEntry) (ep : Nat), o.data = .dict es ep ∧ es.size = kas.length ∧ ∀ (i : Nat) (e : Ent), kas[i]? = some e → ∃ en : DictEntry, es[i]? = some en ∧ en.key = .ref e.2.1 := by
  obtain ⟨hd, ⟨z, hs, xs, pr, o', es, ep, ho, hx, hdt, he, _⟩, _⟩ := I.hok d _ h
  rw [hd] at ho
  cases ho
  refine ⟨hs, hd, hx, es, ep, hdt, ?_, fun i e hi => ?_⟩
  · have l1 := congrArg List.length he
    rw [Array.length_toList, List.length_map, ← Paired.length pr] at l1
    exact l1
  · obtain ⟨b, hb, e1, e2, _⟩ := L2.paired_get pr hi
    have q : es.toList[i]? = some (entW X.w b) := by rw [he, List.getElem?_map, hb]; rfl
    rw [Array.getElem?_toList] at q
    exact ⟨_, q, by show Value.ref b.2.1 = _; rw [e2]⟩
end
section
variable {P : Program} {w : World} {K : PySem.W.Frag} {tg : Expr} {d : Addr} {o : Obj} {es : Array DictEntry} {ep : Nat}
theorem turn_keysN {kas : List Ent} (it : Addr) (hod : o.data = .dict es ep) : Turn P w K tg (ItN w d o kas) [it] it (fun i h => h.IsKeyIter it d i kas.length ep) where
  mem := by simp
  obj := fun i h st b hb => by
    have e : b = it := by simpa using hb
    subst e
    obtain ⟨oi, e, c, dd⟩ := st
    exact ⟨oi, e, fun v z => by rw [dd] at z; cases z⟩
  keep := fun i h h' st k => st.at fun oi e => k it (by simp) oi e
  item := by
    intro X hP hw hK hc i pins s σ H E I hf st hg
    subst hP hw hK
    obtain ⟨hd, hi⟩ := hg
    obtain ⟨f0, f1, f2, f3, f4, f5⟩ := hf it (by simp)
    obtain ⟨hs, hgd, hx, es', ep', hdt, hsz, ent⟩ := frzN I hd
    obtain ⟨rfl, rfl⟩ := dict_ep hod hdt
    obtain ⟨e, hkv⟩ : ∃ p, kas[i]? = some p := ⟨kas[i], List.getElem?_eq_getElem hi⟩
    obtain ⟨en, hen, hkey⟩ := ent i e hkv
    refine next_key_item st hgd hdt hsz hen fun h' st' sb => ?_
    have I1 : Inv X pins σ H { s with heap := h' } := I.turned (t' := s.toks) (fun b ob hb e => (sb.2 b hb).trans e) f0 f1 f3 f4 f5
    obtain ⟨oi, e', c, dd⟩ := id st'
    exact ⟨en.key, rfl, go_of (s := { s with heap := h' }) e' c dd (by decide) ⟨.ref e.2.1, H, I1, hkey, ⟨rfl, e, hkv, rfl⟩, st', fun b hb => (hf b hb).1⟩⟩
  done := by
    intro X hP hw hK hc i pins s σ H E I hf st hg
    subst hP hw hK
    obtain ⟨hd, hi⟩ := hg
    obtain ⟨f0, f1, f2, f3, f4, f5⟩ := hf it (by simp)
    obtain ⟨hs, hgd, hx, es', ep', hdt, hsz, ent⟩ := frzN I hd
    obtain ⟨rfl, rfl⟩ := dict_ep hod hdt
    exact next_key_end (I.ok.hd hc) st hgd hdt hsz hi fun h' eb => ⟨rfl, I.turned (t' := s.toks) (fun b ob hb e => eb b ob hb e) f0 f1 f3 f4 f5⟩
  self := fun A i s Q E st h => by
    refine wpAny_pyIter_slot st.typeIs F.slot_dict_keyiterator_iter (wpAny_call_entry F.slot_dict_keyiterator_iter st.typeIs F.entry_dict_keyiterator_iter ?_ (F.args_dict_keyiterator_iter_1 _))
    show wpAny _ _ (ret (.ref it)) _ _ s
    exact wpAny_pure ⟨_, rfl, "dict_keyiterator", _, st.typeIs, F.slot_dict_keyiterator_next.lookup, h⟩
end
def iKeysN (w : World) (td : TE) : TI := fun σ H R => td σ H fun x H1 => ∃ d o kas, x = .ref d ∧ H1 d = some (.frz o (DN w d kas)) ∧ R (ItN w d o kas) H1
theorem pi_keysN {X : Cx} {tg e : Expr} {td : TE} (he : PE X e td) : PI X tg e (iKeysN X.w td) := by
  refine ⟨fun pins s σ H R I h => ?_⟩
  refine thn (he.run pins s σ H _ I h) fun u s1 ⟨x, H1, I1, rx, d, o, kas, ex, hd, q⟩ => ?_
  subst ex
  obtain rfl : u = Value.ref d := rx
  obtain ⟨hs, hgd, hx, es, ep, hdt, hsz, ent⟩ := frzN I1 hd
  refine iter_keys hs hgd hx hdt (pi_one (tk := s1.toks) I1 _ (turn_keysN _ hdt) ⟨_, Heap.get?_push_size _ rfl, rfl, ?_⟩ q)
  rw [hsz] <;> rfl
/-- list(d): the keys' tuples -/
def rListN (w : World) : List V → Hp → VK → Prop := fun xs H Q => ∃ d kas, xs = [V.ref d] ∧ Rd H d (DN w d kas) ∧ ∀ p, H p = none → Q (.ref p) (upd H p (.lst (kas.map fun e => V.ref e.2.1)))
theorem call_list_dN {X : Cx} (hc : X.calm = true) : CallR X (.type "list") (rListN X.w) := by
  intro pins s σ H xs us Q I r h
  obtain ⟨d, kas, rfl, hd, q⟩ := h
  obtain ⟨u, rfl, rx⟩ := r.one
  cases rx
  have x : ObjOk X.prog X.w H s.heap d (DN X.w d kas) := by
    rcases hd with e | ⟨o, e⟩
    · exact I.hok d _ e
    · exact (I.hok d _ e).2
  obtain ⟨⟨z, hs, ks, pr, o, es, ep, ho, hx, hdt, he, hn⟩, _⟩ := x
  have l1 : es.size = ks.length := by
    have := congrArg List.length he
    rw [Array.length_toList, List.length_map] at this
    exact this
  have l2 : kas.length = ks.length := Paired.length pr
  refine PySem.W.kdl_call (kdl_raw hs hx hdt) (I.ok.hd hc) ho (by omega) fun h' tk acc' c' kp e it => ?_
  have ea : acc'.toList = kas.map fun x => Value.ref x.2.1 := by
    have hl : acc'.toList.length = ks.length := by rw [Array.length_toList, it.1]; exact l1
    apply List.ext_getElem?
    intro j
    rw [List.getElem?_map]
    cases hj : acc'.toList[j]? with
    | none =>
      have h1 := List.getElem?_eq_none_iff.mp hj
      rw [List.getElem?_eq_none (by omega)]
      all_goals rfl
    | some v =>
      have hjl : j < kas.length := by
        have := (List.getElem?_eq_some_iff.mp hj).1
        omega
      obtain ⟨en, hen, hv⟩ := it.2 j v (by rw [← Array.getElem?_toList]; exact hj)
      rw [← Array.getElem?_toList, he, List.getElem?_map] at hen
      have hk : kas[j]? = some kas[j] := List.getElem?_eq_getElem hjl
      obtain ⟨b, hb, e1, e2, _⟩ := L2.paired_get pr hk
      rw [hb] at hen
      have e3 : entW X.w b = en := Option.some.inj hen
      rw [hk, hv, ← e3]
      show some (Value.ref b.2.1) = some (Value.ref kas[j].2.1)
      rw [e2]
  have rv : Vals (kas.map fun e => V.ref e.2.1) acc'.toList := by
    rw [ea]
    have := vals_refs (kas.map fun e => e.2.1)
    rw [List.map_map, List.map_map] at this
    exact this
  exact ⟨.ref _, upd H s.heap.objs.size (.lst (kas.map fun e => V.ref e.2.1)), I.laid (t' := tk) kp (Nat.le_refl _) ⟨by rw [List.length_map]; exact z, acc'.toList, c', rv, by rw [Array.toArray_toList]; exact e⟩, rfl, q _ (I.hok.fresh (Nat.le_refl _))⟩
end Sd

/-! Rules of our own: min of a list of data. -/
namespace Sd
open PySem L2 Evl PySem.Spec PyProof.Rows
theorem dpAll_of {γ : Type} {enc : γ → PyData} {K : PySem.W.Frag} {H : Hp} : ∀ {bs : List (V × γ)}, (∀ b ∈ bs, Dp K H b.1 (enc b.2)) → DpAll K H (bs.map (·.1)) (bs.map fun b => enc b.2)
  | [], _ => .nil
  | b :: r, h => .cons (h b List.mem_cons_self) (dpAll_of fun c hc => h c (List.mem_cons_of_mem _ hc))
def rMinV {γ : Type} (enc : γ → PyData) (K : PySem.W.Frag) : List V → Hp → VK → Prop := fun vs H Q => ∃ a, ∃ b0 : V × γ, ∃ bs : List (V × γ), vs = [.ref a] ∧ SqL K H a ((b0 :: bs).map (·.1)) ∧ (∀ b ∈ b0 :: bs, Dp K H b.1 (enc b.2)) ∧
  PySem.W.AlikeAll ((b0 :: bs).map fun b => enc b.2) ∧ PyData.depthAll ((b0 :: bs).map fun b => enc b.2) ≤ 40 ∧ ∀ b ∈ b0 :: bs, enc b.2 = PySem.W.minD (enc b0.2) (bs.map fun b => enc b.2) → Q b.1 H
theorem cr_minV {γ : Type} {enc : γ → PyData} {X : Cx} (hc : X.calm = true) (hu : X.A.units + 64 < cLine) : CallR X (.builtin "min") (rMinV enc X.K) := by
  intro pins s σ H vs us Q I r h
  obtain ⟨a, b0, bs, rfl, hs, hd, hal, hdep, q⟩ := h
  obtain ⟨its, rv, hl, hz⟩ := I.list hs
  rw [Vals.ref1 r]
  obtain ⟨as, hr⟩ := Dp.readsAll I _ _ _ (dpAll_of hd) rv
  have hal' : PySem.W.AlikeAll (enc b0.2 :: bs.map fun b => enc b.2) := hal
  refine PySem.W.min_list_data (x := enc b0.2) (xs := bs.map fun b => enc b.2) (as := as) (I.ok.hd hc) hl.isList (by simpa using hr) hal' (by simp only [List.map_cons] at hdep; omega) fun i v h' tk cs hv hrd hk => ?_
  have hv' : its[i]? = some v := by simpa using hv
  have hi : i < (b0 :: bs).length := by
    have h1 := (List.getElem?_eq_some_iff.mp hv').1
    have h2 := Vals.length rv
    rw [List.length_map] at h2
    omega
  have hb : (b0 :: bs)[i]? = some (b0 :: bs)[i] := List.getElem?_eq_getElem hi
  have mem : (b0 :: bs)[i] ∈ b0 :: bs := List.getElem_mem hi
  generalize (b0 :: bs)[i] = b at hb mem
  obtain ⟨u, hu', rx⟩ := Vals.get (i := i) (x := b.1) rv (by rw [List.getElem?_map, hb]; rfl)
  have : u = v := Option.some.inj (hu'.symm.trans hv')
  subst this
  obtain ⟨as1, r1⟩ := Dp.reads I _ _ _ (hd b mem) rx
  have e := Reads.unique (Reads.keeps hk r1) _ _ hrd
  exact ⟨b.1, H, I.kept hk, rx, q b mem e.1⟩
end Sd

/-! The walk of a ring: the program's steps are the rim's, one after another. -/
namespace Sd
open Sd.J
section
variable {h w : Nat} {cs : List Int}
theorem sa_0 (a : Cell) : sideAhead h w cs (a.1 + 1) (a.2 + 1) 0 = (Sc h w cs (nb a 1) != Sc h w cs (nb (nb a 1) 2)) := by
  show (inCell h w cs (a.1 + 1 - 1) (a.2 + 1) != inCell h w cs (a.1 + 1) (a.2 + 1)) = (inCell h w cs a.1 (a.2 + 1) != inCell h w cs (a.1 + 1) (a.2 + 1))
  rw [Int.add_sub_cancel]
theorem sa_1 (a : Cell) : sideAhead h w cs (a.1 + 1) (a.2 + 1) 1 = (Sc h w cs (nb (nb a 1) 2) != Sc h w cs (nb a 2)) := by
  show (inCell h w cs (a.1 + 1) (a.2 + 1) != inCell h w cs (a.1 + 1) (a.2 + 1 - 1)) = (inCell h w cs (a.1 + 1) (a.2 + 1) != inCell h w cs (a.1 + 1) a.2)
  rw [Int.add_sub_cancel]
theorem sa_2 (a : Cell) : sideAhead h w cs (a.1 + 1) (a.2 + 1) 2 = (Sc h w cs (nb a 2) != Sc h w cs a) := by
  show (inCell h w cs (a.1 + 1) (a.2 + 1 - 1) != inCell h w cs (a.1 + 1 - 1) (a.2 + 1 - 1)) = (inCell h w cs (a.1 + 1) a.2 != inCell h w cs a.1 a.2)
  rw [Int.add_sub_cancel, Int.add_sub_cancel]
theorem sa_3 (a : Cell) : sideAhead h w cs (a.1 + 1) (a.2 + 1) 3 = (Sc h w cs a != Sc h w cs (nb a 1)) := by
  show (inCell h w cs (a.1 + 1 - 1) (a.2 + 1 - 1) != inCell h w cs (a.1 + 1 - 1) (a.2 + 1)) = (inCell h w cs a.1 a.2 != inCell h w cs a.1 (a.2 + 1))
  rw [Int.add_sub_cancel, Int.add_sub_cancel]
theorem ways_at (a : Cell) (t : Nat) : ways h w cs (a.1 + 1) (a.2 + 1) t = [0, 1, 2, 3].filter fun y => !decide (y = (t + 2) % 4) && (match y with
    | 0 => Sc h w cs (nb a 1) != Sc h w cs (nb (nb a 1) 2) | 1 => Sc h w cs (nb (nb a 1) 2) != Sc h w cs (nb a 2) | 2 => Sc h w cs (nb a 2) != Sc h w cs a | _ => Sc h w cs a != Sc h w cs (nb a 1)) := by
  unfold ways
  rw [show List.range 4 = [0, 1, 2, 3] from rfl]
  refine List.filter_congr fun y hy => ?_
  simp only [List.mem_cons, List.not_mem_nil, or_false] at hy
  rcases hy with rfl | rfl | rfl | rfl
  · rw [sa_0]; rfl
  · rw [sa_1]; rfl
  · rw [sa_2]; rfl
  · rw [sa_3]; rfl
/-- no point of four sides: ahead is just the next side of the rim -/
theorem ways_succ (nd : ∀ a, ¬ Deg4 (Sc h w cs) a) {e : Side} (he : Rim (Sc h w cs) e) : ways h w cs (head e).1 (head e).2 e.2.val = [(succ (Sc h w cs) e).2.val] := by
  obtain ⟨a, ha⟩ : ∃ a : Cell, head e = (a.1 + 1, a.2 + 1) := ⟨cor e, cor_head e⟩
  have n4 := nd a
  unfold Deg4 at n4
  rw [ha]
  show ways h w cs (a.1 + 1) (a.2 + 1) e.2.val = _
  rw [ways_at]
  rcases in_of ha with rfl | rfl | rfl | rfl
  · obtain ⟨h1, h2⟩ := he
    dsimp only at h1 h2
    rw [succ_a]
    dsimp only
    rw [show ((1 : Fin 4).val + 2) % 4 = 3 from by decide]
    revert n4
    generalize Sc h w cs (nb a 2) = d
    generalize Sc h w cs (nb (nb a 1) 2) = c
    rw [h1, h2]
    cases c <;> cases d <;> intro n4 <;> first | rfl | exact absurd ⟨rfl, rfl, by decide⟩ n4
  · obtain ⟨h1, h2⟩ := he
    dsimp only at h1 h2
    rw [succ_b]
    dsimp only
    rw [show ((2 : Fin 4).val + 2) % 4 = 0 from by decide]
    revert n4
    generalize Sc h w cs (nb a 2) = d
    generalize Sc h w cs a = c
    rw [h1, h2]
    cases c <;> cases d <;> intro n4 <;> first | rfl | exact absurd ⟨rfl, rfl, by decide⟩ n4
  · obtain ⟨h1, h2⟩ := he
    dsimp only at h1 h2
    rw [nb_c3] at h2
    rw [succ_c]
    dsimp only
    rw [show ((3 : Fin 4).val + 2) % 4 = 1 from by decide]
    revert n4
    generalize Sc h w cs (nb a 1) = d
    generalize Sc h w cs a = c
    rw [h1, h2]
    cases c <;> cases d <;> intro n4 <;> first | rfl | exact absurd ⟨rfl, rfl, by decide⟩ n4
  · obtain ⟨h1, h2⟩ := he
    dsimp only at h1 h2
    rw [nb_d0] at h2
    rw [succ_d]
    dsimp only
    rw [show ((0 : Fin 4).val + 2) % 4 = 2 from by decide]
    revert n4
    generalize Sc h w cs (nb a 1) = d
    generalize Sc h w cs (nb (nb a 1) 2) = c
    rw [h1, h2]
    cases c <;> cases d <;> intro n4 <;> first | rfl | exact absurd ⟨rfl, rfl, by decide⟩ n4
theorem head_step (e : Side) : head e = ((tail e).1 + (stepOf e.2.val).1, (tail e).2 + (stepOf e.2.val).2) := by
  obtain ⟨⟨r, c⟩, s⟩ := e
  revert s
  refine fin4 _ ?_ ?_ ?_ ?_ <;> (refine Prod.ext ?_ ?_ <;> simp [head, tail, stepOf] <;> omega)
/-- the points of the rim from a side on, in turn -/
def rimPts (S : Cell → Bool) (e : Side) (N : Nat) : List Pt := (List.range N).map fun j => tail (it S e j)
theorem walk_from (nd : ∀ a, ¬ Deg4 (Sc h w cs) a) {e : Side} (he : Rim (Sc h w cs) e) {N : Nat} (p : Per (Sc h w cs) e N) :
    ∀ (m k : Nat) (f : List Pt), m + k + 1 = N → ∀ n, m + 1 ≤ n → f = rimPts (Sc h w cs) e (k + 1) → walkGo h w cs (tail e).1 (tail e).2 n f (it (Sc h w cs) e k).2.val (head (it (Sc h w cs) e k)).1 (head (it (Sc h w cs) e k)).2 = some (rimPts (Sc h w cs) e N) := by
  intro m
  induction m with
  | zero =>
    intro k f hk n hn hf
    obtain ⟨n, rfl⟩ : ∃ n', n = n' + 1 := ⟨n - 1, by omega⟩
    have hN : k + 1 = N := by omega
    have e1 : head (it (Sc h w cs) e k) = tail e := by
      rw [← tail_succ (S := Sc h w cs)]
      show tail (it (Sc h w cs) e (k + 1)) = _
      rw [hN, p.1.2]
    unfold walkGo
    rw [e1, if_pos ⟨rfl, rfl⟩, hf, hN]
  | succ m ih =>
    intro k f hk n hn hf
    obtain ⟨n, rfl⟩ : ∃ n', n = n' + 1 := ⟨n - 1, by omega⟩
    have rk := it_rim he k
    have rk1 := it_rim he (k + 1)
    have ts : head (it (Sc h w cs) e k) = tail (it (Sc h w cs) e (k + 1)) := (tail_succ (S := Sc h w cs) _).symm
    have ne : ¬ ((head (it (Sc h w cs) e k)).1 = (tail e).1 ∧ (head (it (Sc h w cs) e k)).2 = (tail e).2) := fun z => by
      have : tail (it (Sc h w cs) e (k + 1)) = tail e := by rw [← ts]; exact Prod.ext z.1 z.2
      exact p.2 (k + 1) (by omega) ⟨by omega, tail_inj nd rk1 he this⟩
    unfold walkGo
    rw [if_neg ne, ways_succ nd rk]
    show walkGo h w cs (tail e).1 (tail e).2 n (f ++ [((head (it (Sc h w cs) e k)).1, (head (it (Sc h w cs) e k)).2)]) (it (Sc h w cs) e (k + 1)).2.val _ _ = _
    have hs := head_step (it (Sc h w cs) e (k + 1))
    have := ih (k + 1) (f ++ [head (it (Sc h w cs) e k)]) (by omega) n (by omega) (by
      rw [hf]
      unfold rimPts
      rw [List.range_succ (n := k + 1), List.map_append, ts]
      rfl)
    rw [hs] at this
    rw [← ts] at this
    exact this
theorem grid_few : (List.range 7).all (fun h => (List.range 7).all fun w => decide ((gridSides h w).length ≤ 144)) = true := by decide +kernel
theorem per_few (gk : GOk h w) {e : Side} (he : Rim (Sc h w cs) e) {N : Nat} (p : Per (Sc h w cs) e N) : N ≤ 144 := by
  obtain ⟨g1, g2, g3, g4⟩ := gk
  have h1 := nodup_len (per_nodup he p) (m := gridSides h w) (fun o ho => by
    obtain ⟨i, _, rfl⟩ := List.mem_map.mp ho
    exact mem_gridSides (sc_iff.mp (it_rim he i).1).1)
  rw [List.length_map, List.length_range] at h1
  have a := List.all_eq_true.mp grid_few h (List.mem_range.mpr (by omega))
  have b := List.all_eq_true.mp a w (List.mem_range.mpr (by omega))
  have := of_decide_eq_true b
  omega
/-- the first side gone along -/
def fstSide (w : Nat) (cs : List Int) : Side := (cellOf w (cs.headD 0), 0)
/-- the walk of a ring is round its rim -/
theorem walk_ring (gk : GOk h w) (ck : COk h w cs) (hr : isRing h w cs = true) : ∃ N, Per (Sc h w cs) (fstSide w cs) N ∧ walkOf h w cs = some (rimPts (Sc h w cs) (fstSide w cs) N) := by
  obtain ⟨nd, one⟩ := (isRing_iff gk ck).mp hr
  have he := first_rim gk ck
  obtain ⟨N, p⟩ := per_ex (sc_within h w cs) he
  refine ⟨N, p, ?_⟩
  have few := per_few gk he p
  have pos := p.1.1
  have := walk_from nd he p (N - 1) 0 [tail (cellOf w (cs.headD 0), 0)] (by omega) 200 (by omega) rfl
  exact this
/-- as many points as sides; each side once; the first point the least -/
theorem rim_pairs (gk : GOk h w) (ck : COk h w cs) (hr : isRing h w cs = true) {us : List Sd2} (ir : IsRim (Sc h w cs) us) {N : Nat} (p : Per (Sc h w cs) (fstSide w cs) N) :
    N = us.length ∧ ((List.range N).map fun j => und (it (Sc h w cs) (fstSide w cs) j)).Perm us := by
  obtain ⟨nd, one⟩ := (isRing_iff gk ck).mp hr
  have he : Rim (Sc h w cs) (fstSide w cs) := first_rim gk ck
  have hl := (per_len ir he p).2.mpr one
  refine ⟨hl, ?_⟩
  have nd2 : ((List.range N).map fun j => und (it (Sc h w cs) (fstSide w cs) j)).Nodup := by
    have h0 := per_nodup he p
    unfold List.Nodup at h0 ⊢
    rw [List.pairwise_map] at h0 ⊢
    exact h0.imp fun {i j} hij z => hij (und_rim (it_rim he i) (it_rim he j) z)
  refine (List.perm_ext_iff_of_nodup nd2 ir.nd).mpr fun u => ?_
  rw [ir.mem]
  constructor
  · intro hu
    obtain ⟨j, _, rfl⟩ := List.mem_map.mp hu
    exact ⟨_, it_rim he j, rfl⟩
  · rintro ⟨f, hf, rfl⟩
    obtain ⟨i, rfl⟩ := one _ f he hf
    obtain ⟨k, hk, e1⟩ := per_mod p i
    exact List.mem_map.mpr ⟨k, List.mem_range.mpr hk, by rw [e1]⟩
/-- the order of points -/
def ptLe (p q : Pt) : Prop := p.1 < q.1 ∨ (p.1 = q.1 ∧ p.2 ≤ q.2)
theorem first_least (gk : GOk h w) (ck : COk h w cs) {e : Side} (he : Rim (Sc h w cs) e) : ptLe (tail (fstSide w cs)) (tail e) := by
  obtain ⟨g1, hm⟩ := sc_iff.mp he.1
  have hl := head_least ck.2.2 _ hm
  have hb := ck.2.1 _ (head_mem ck.1)
  have h1 := idx_cell gk (cs.headD 0)
  have g0 := cell_inG gk hb.1 hb.2
  obtain ⟨x, s⟩ := e
  unfold fstSide ptLe
  show (cellOf w (cs.headD 0)).1 < _ ∨ _
  rw [← h1] at hl
  unfold idx at hl
  generalize cellOf w (cs.headD 0) = a at *
  obtain ⟨⟨_, _⟩, ⟨a3, a4⟩⟩ := g0
  obtain ⟨⟨_, _⟩, ⟨x3, x4⟩⟩ := g1
  dsimp only at *
  have le : a.1 < x.1 ∨ (a.1 = x.1 ∧ a.2 ≤ x.2) := by
    rcases Int.lt_trichotomy a.1 x.1 with z | z | z
    · exact .inl z
    · rw [z] at hl
      exact .inr ⟨z, by omega⟩
    · exfalso
      have : (x.1 + 1) * (w : Int) ≤ a.1 * w := Int.mul_le_mul_of_nonneg_right (by omega) (by omega)
      rw [Int.add_mul] at this
      omega
  revert s
  refine fin4 _ ?_ ?_ ?_ ?_ <;> intro _ <;> simp only [tail] <;> omega
end
end Sd

/-! rows of cells at the top: their rims are rings -/
namespace Sd
theorem Conn.trans {h w : Nat} {cs : List Int} {x y z : Int} (a : Conn h w cs x y) (b : Conn h w cs y z) : Conn h w cs x z := by
  induction b with
  | refl => exact a
  | step _ hb ho ih => exact .step ih hb ho
theorem whole_by {h w : Nat} (gk : GOk h w) {cs : List Int} (ck : COk h w cs) (h1 : ∀ o ∈ cs, Conn h w cs (cs.headD 0) o) (h2 : ∀ x ∈ restOf h w cs, ∃ o, Conn h w (restOf h w cs) x o ∧ onEdge h w o = true) : ¬ (spread h w (cs.headD 0) cs).length < cs.length ∧ firstInner h w cs = none := by
  refine ⟨(spread_all gk ck).mpr h1, (firstInner_none gk).mpr fun x hx => ?_⟩
  obtain ⟨o, ho, he⟩ := h2 x hx
  unfold isInner
  rw [List.all_eq_false]
  exact ⟨o, (mem_spread gk.2.2.1).mpr ho, by simp [he]⟩
theorem ring_by {h w : Nat} {cs : List Int} (p : ¬ (spread h w (cs.headD 0) cs).length < cs.length ∧ firstInner h w cs = none) : isRing h w cs = true := by
  unfold isRing
  rw [if_neg p.1, p.2]
  rfl
theorem down_go {h w : Nat} (gk : GOk h w) {cs : List Int} (hc : ∀ o ∈ cs, o < 2 * (w : Int)) : ∀ (k : Nat) (x : Int), x ∈ restOf h w cs → (w : Int) ≤ x → (w : Int) * ((h : Int) - 1) ≤ x + (k : Int) * w → ∃ o, Conn h w (restOf h w cs) x o ∧ onEdge h w o = true
  | 0, x, hx, hw, hk => ⟨x, .refl x, by
      unfold onEdge
      have : (w : Int) * ((h : Int) - 1) ≤ x := by simpa using hk
      simp [this]⟩
  | k + 1, x, hx, hw, hk => by
    by_cases he : (w : Int) * ((h : Int) - 1) ≤ x
    · exact ⟨x, .refl x, by unfold onEdge; simp [he]⟩
    · have e : (h : Int) * w = (w : Int) * ((h : Int) - 1) + w := by rw [Int.mul_sub, Int.mul_comm]; omega
      have e2 : ((k + 1 : Nat) : Int) * w = (k : Int) * w + w := by
        rw [show ((k + 1 : Nat) : Int) = (k : Int) + 1 from rfl, Int.add_mul, Int.one_mul]
      have hm : x + w ∈ restOf h w cs := (mem_rest gk).mpr ⟨⟨by omega, by omega⟩, fun z => by have := hc _ z; omega⟩
      obtain ⟨o, ho, hE⟩ := down_go gk hc k (x + w) hm (by omega) (by omega)
      refine ⟨o, Conn.trans (.step (.refl x) ?_ hm) ho, hE⟩
      unfold beside besideD
      rw [if_pos (by omega)]
      exact List.mem_append_right _ List.mem_cons_self
theorem down {h w : Nat} (gk : GOk h w) {cs : List Int} (hc : ∀ o ∈ cs, o < 2 * (w : Int)) : ∀ x ∈ restOf h w cs, ∃ o, Conn h w (restOf h w cs) x o ∧ onEdge h w o = true := fun x hx => by
  by_cases hw : x < (w : Int)
  · exact ⟨x, .refl x, by unfold onEdge; simp [hw]⟩
  · have e : (h : Int) * w = (w : Int) * ((h : Int) - 1) + w := by rw [Int.mul_sub, Int.mul_comm]; omega
    exact down_go gk hc h x hx (by omega) (by omega)
def rowC (o m : Nat) : List Int := (List.range m).map fun i : Nat => (o : Int) + (i : Int)
theorem rowC_len (o m : Nat) : (rowC o m).length = m := by unfold rowC; rw [List.length_map, List.length_range]
theorem mem_rowC {o m : Nat} {x : Int} : x ∈ rowC o m ↔ ∃ i : Nat, i < m ∧ x = (o : Int) + (i : Int) := by
  unfold rowC
  simp only [List.mem_map, List.mem_range]
  exact ⟨fun ⟨i, a, b⟩ => ⟨i, a, b.symm⟩, fun ⟨i, a, b⟩ => ⟨i, a, b.symm⟩⟩
theorem rowC_head {o m : Nat} (hm : 1 ≤ m) : (rowC o m).headD 0 = (o : Int) := by
  obtain ⟨n, rfl⟩ : ∃ n, m = n + 1 := ⟨m - 1, by omega⟩
  unfold rowC
  rw [List.range_succ_eq_map]
  simp
theorem rowC_ok {h w o m : Nat} (hm : 1 ≤ m) (hb : o + m ≤ h * w) : COk h w (rowC o m) := by
  refine ⟨fun z => ?_, fun x hx => ?_, ?_⟩
  · have := congrArg List.length z
    rw [rowC_len] at this
    simp at this
    omega
  · obtain ⟨i, hi, rfl⟩ := mem_rowC.mp hx
    have cast : ((h * w : Nat) : Int) = (h : Int) * w := Int.natCast_mul h w
    omega
  · unfold Rising rowC
    rw [List.pairwise_map]
    exact List.pairwise_lt_range.imp fun a => by omega
theorem rowC_conn {h w o m : Nat} (ho : o = 0 ∨ o = w) (mw : m ≤ w) : ∀ i : Nat, i < m → Conn h w (rowC o m) (o : Int) ((o : Int) + (i : Int))
  | 0, _ => by
    rw [show ((o : Int) + ((0 : Nat) : Int)) = (o : Int) by omega]
    exact .refl _
  | i + 1, hi => by
    refine .step (rowC_conn ho mw i (by omega)) ?_ (mem_rowC.mpr ⟨i + 1, hi, rfl⟩)
    have e : ((o : Int) + (i : Int)) % (w : Int) = (i : Int) := by
      rcases ho with rfl | rfl
      · rw [show ((0 : Nat) : Int) + (i : Int) = (i : Int) by omega]
        exact Int.emod_eq_of_lt (by omega) (by omega)
      · rw [Int.add_comm, Int.add_emod_right]
        exact Int.emod_eq_of_lt (by omega) (by omega)
    unfold beside besideC
    rw [e, if_pos (by omega)]
    refine List.mem_append_left _ (List.mem_append_right _ ?_)
    rw [show (o : Int) + ((i + 1 : Nat) : Int) = (o : Int) + (i : Int) + 1 by omega]
    exact List.mem_cons_self
theorem rowC_whole {h w o m : Nat} (gk : GOk h w) (h2 : 2 ≤ h) (ho : o = 0 ∨ o = w) (m1 : 1 ≤ m) (mw : m ≤ w) : COk h w (rowC o m) ∧ ¬ (spread h w ((rowC o m).headD 0) (rowC o m)).length < (rowC o m).length ∧ firstInner h w (rowC o m) = none := by
  have hb : o + m ≤ h * w := by
    have : 2 * w ≤ h * w := Nat.mul_le_mul_right w h2
    rcases ho with rfl | rfl <;> omega
  have ck := rowC_ok (h := h) (w := w) m1 hb
  refine ⟨ck, whole_by gk ck (fun x hx => ?_) (down gk fun x hx => ?_)⟩
  · obtain ⟨i, hi, rfl⟩ := mem_rowC.mp hx
    rw [rowC_head m1]
    exact rowC_conn ho mw i hi
  · obtain ⟨i, hi, rfl⟩ := mem_rowC.mp hx
    rcases ho with rfl | rfl <;> omega
theorem sides_le (h w : Nat) (cs : List Int) (x : Int) : sidesOf h w cs x ≤ 4 := by
  have a : near h w cs x ≤ 4 := by
    unfold near
    exact Nat.le_trans (List.length_filter_le _ _) (beside_len h w x)
  unfold sidesOf
  split <;> omega
theorem numbers_le {h w : Nat} {cs r : List Int} (hr : r ∈ numbersOf h w cs) : ∀ x ∈ r, x ≤ 4 := fun x hx => by
  unfold numbersOf at hr
  obtain ⟨i, _, rfl⟩ := List.mem_map.mp hr
  obtain ⟨j, _, rfl⟩ := List.mem_map.mp hx
  exact sides_le _ _ _ _
/-- two cells one above the other -/
theorem two_whole {h w : Nat} (gk : GOk h w) (h2 : 2 ≤ h) : COk h w [0, (w : Int)] ∧ ¬ (spread h w (([0, (w : Int)] : List Int).headD 0) [0, (w : Int)]).length < ([0, (w : Int)] : List Int).length ∧ firstInner h w [0, (w : Int)] = none := by
  have w1 := gk.2.2.1
  have cast : ((h * w : Nat) : Int) = (h : Int) * w := Int.natCast_mul h w
  have : 2 * w ≤ h * w := Nat.mul_le_mul_right w h2
  have e : (h : Int) * w = (w : Int) * ((h : Int) - 1) + w := by rw [Int.mul_sub, Int.mul_comm]; omega
  have ck : COk h w [0, (w : Int)] := by
    refine ⟨by simp, fun x hx => ?_, ?_⟩
    · simp only [List.mem_cons, List.not_mem_nil, or_false] at hx
      rcases hx with rfl | rfl <;> omega
    · unfold Rising
      simp
      omega
  refine ⟨ck, whole_by gk ck (fun x hx => ?_) (down gk fun x hx => ?_)⟩
  · simp only [List.mem_cons, List.not_mem_nil, or_false] at hx
    rcases hx with rfl | rfl
    · exact .refl _
    · refine .step (.refl _) ?_ (by simp)
      show (w : Int) ∈ beside h w 0
      unfold beside besideD
      rw [if_pos (by omega)]
      refine List.mem_append_right _ ?_
      rw [Int.zero_add]
      exact List.mem_cons_self
  · simp only [List.mem_cons, List.not_mem_nil, or_false] at hx
    rcases hx with rfl | rfl <;> omega
end Sd

namespace Sd
open PySem L2 Evl
local macro_rules | `(tactic| walk_at "side") => `(tactic| first
  | assumption
  | rfl
  | decide
  | omega
  | (show (0 : Int) < _; omega)
  | (show (0 : Int) < _; decide)
  | exact ⟨by omega, by omega⟩
  | exact .inl ⟨by omega, by omega⟩
  | exact .inr ⟨by omega, by omega⟩
  | exact ⟨by decide, by decide, by decide⟩)
local macro_rules | `(tactic| walk_at "rv") => `(tactic| first
  | with_reducible exact rv_I0
  | ((with_reducible refine' rv_I ?rvc); (case rvc => walk_at "side"))
  | with_reducible exact rv_eq rfl
  | with_reducible exact rv_ne rfl)
local macro_rules | `(tactic| walk_at "es") => `(tactic| first
  | with_reducible assumption
  | ((with_reducible refine' es_of ?esa ?esb); (case esa => walk_at "ev"); (case esb => with_reducible assumption))
  | ((with_reducible refine' es_new ?esa); (case esa => walk_at "el")))
local macro_rules | `(tactic| walk_at "el") => `(tactic| first
  | with_reducible assumption
  | ((with_reducible refine' el_lst ?ela ?elb); (case ela => walk_at "ea"); (case elb => simp)))
local macro_rules | `(tactic| walk_at "est") => `(tactic| first
  | with_reducible assumption
  | ((with_reducible refine' est_of ?esa ?esb); (case esa => walk_at "ev"); (case esb => with_reducible assumption))
  | ((with_reducible refine' est_new (eu_tup ?esa ?esb)); (case esa => walk_at "ea"); (case esb => simp)))
local macro_rules | `(tactic| walk_at "ev") => `(tactic| first
  | ((with_reducible refine' ev_var ?eva); (case eva => rfl))
  | with_reducible exact ev_c
  | with_reducible assumption
  | ((with_reducible refine' ev_isIn ?eva ?evb); (case eva => walk_at "ev"); (case evb => walk_at "es"))
  | ((with_reducible refine' ev_notIn ?eva ?evb); (case eva => walk_at "ev"); (case evb => walk_at "es"))
  | ((with_reducible refine' ev_inT2 ?eva ?evb); (case eva => walk_at "ev"); (case evb => walk_at "est"))
  | ((with_reducible refine' ev_ixT ?eva ?evb ?evc); (case eva => walk_at "est"); (case evb => walk_at "ev"); (case evc => rfl))
  | ((with_reducible refine' ev_op ?eva ?evb ?evc); (case eva => walk_at "ev"); (case evb => walk_at "ev"); (case evc => walk_at "rv"))
  | ((with_reducible refine' ev_un ?eva ?evb); (case eva => walk_at "ev"); (case evb => exact ru_neg))
  | ((with_reducible refine' ev_chain ?eva ?evb ?evc (fun _ => ?evd) (fun _ => ?eve)); (case eva => walk_at "ev"); (case evb => walk_at "ev"); (case evc => walk_at "rv"); (case evd => walk_at "ev"); (case eve => walk_at "rv"))
  | ((with_reducible refine' ev_notV ?eva); (case eva => walk_at "ev"))
  | ((with_reducible refine' ev_andV ?eva (fun _ => ?evb)); (case eva => walk_at "ev"); (case evb => walk_at "ev"))
  | ((with_reducible refine' ev_orV ?eva (fun _ => ?evb)); (case eva => walk_at "ev"); (case evb => walk_at "ev"))
  | ((with_reducible refine' ev_lenS ?eva); (case eva => walk_at "es"))
  | ((with_reducible refine' ev_sumS ?eva); (case eva => walk_at "es")))
local macro_rules | `(tactic| walk_at "ea") => `(tactic| first
  | with_reducible exact ea_nil
  | ((with_reducible refine' ea_cons ?eaa ?eab); (case eaa => walk_at "ev"); (case eab => walk_at "ea")))
local macro_rules | `(tactic| walk_at "et") => `(tactic| first
  | with_reducible exact et_yes
  | with_reducible assumption
  | ((with_reducible refine' et_test ?eta); (case eta => walk_at "ev"))
  | ((with_reducible refine' et_B ?eta); (case eta => walk_at "ev"))
  | ((with_reducible refine' et_not ?eta); (case eta => walk_at "et"))
  | ((with_reducible refine' et_and ?eta (fun _ => ?etb)); (case eta => walk_at "et"); (case etb => walk_at "et"))
  | ((with_reducible refine' et_or ?eta (fun _ => ?etb)); (case eta => walk_at "et"); (case etb => walk_at "et")))

/-! ### is_whole -/
/-- the classes' places -/
structure Ad where
  (cBadGrid cBadCells cBadClues cNoRing cRingError cRing cSplit cHole cOne cTwo cNever cAnswer : Addr)
def RetE (c : Addr) (H : Hp) (E : XK) : Prop := ∀ H2, Ex H H2 → E (.ref c) none H2
def plainTypes : List String := ["NoneType", "bool", "int", "str", "list", "tuple", "dict"]
def isInt : V → Bool
  | .int _ => true
  | _ => false
/-- a value whose type is known -/
def Known (K : PySem.W.Frag) (H : Hp) (v : V) (n : String) : Prop := TyX K H v (.type n) ∧ n ∈ plainTypes
section
variable {K : PySem.W.Frag} {σ : L2.St} {H H' : Hp} {v : V} {n : String}
theorem TyOf.mono (e : Ex H H') {v : V} {t : Value} (h : TyOf K H v t) : TyOf K H' v t := by
  cases h with
  | non => exact .non
  | bl x => exact .bl x
  | int i => exact .int i
  | str x => exact .str x
  | flt x => exact .flt x
  | lst h => exact .lst (e _ _ h)
  | frz h => exact .frz (e _ _ h)
  | tup h => exact .tup (e _ _ h)
  | dK h => exact .dK (e _ _ h)
  | dT h => exact .dT (e _ _ h)
  | ins h a b c d f => exact .ins (e _ _ h) a b c d f
theorem TyX.mono (e : Ex H H') {v : V} {t : Value} (h : TyX K H v t) : TyX K H' v t := by
  cases h with
  | base h => exact .base (TyOf.mono e h)
  | byt b => exact .byt b
  | set h => exact .set (e _ _ h)
  | kList a b => exact .kList a b
  | kTuple a b => exact .kTuple a b
  | kDict a b => exact .kDict a b
  | fTuple h => exact .fTuple (e _ _ h)
  | fDict h => exact .fDict (e _ _ h)
theorem Known.mono (e : Ex H H') (h : Known K H v n) : Known K H' v n := ⟨TyX.mono e h.1, h.2⟩
theorem ty_list {a : Addr} {xs : List V} (h : SqL K H a xs) : TyX K H (.ref a) (.type "list") := by
  rcases h with (h | ⟨o, h⟩) | ⟨o, its, n, h, hc, _⟩
  · exact .base (.lst h)
  · exact .base (.frz h)
  · exact .kList h hc
theorem ty_tuple {a : Addr} {xs : List V} (h : SqT K H a xs) : TyX K H (.ref a) (.type "tuple") := by
  rcases h with (h | ⟨o, h⟩) | ⟨o, its, n, h, hc, _⟩
  · exact .base (.tup h)
  · exact .fTuple h
  · exact .kTuple h hc
theorem known_int (i : Int) : Known K H (.int i) "int" := ⟨.base (.int i), by decide⟩
theorem known_dp {d : PyData} (h : Dp K H v d) : ∃ n, Known K H v n := by
  cases h with
  | non => exact ⟨_, .base .non, by decide⟩
  | bl b => exact ⟨_, .base (.bl b), by decide⟩
  | int i => exact ⟨_, known_int i⟩
  | str x => exact ⟨_, .base (.str x), by decide⟩
  | lst h _ => exact ⟨_, ty_list h, by decide⟩
  | tup h _ => exact ⟨_, ty_tuple h, by decide⟩
/-- what isinstance says of the plain types -/
theorem kit_int : ∀ n ∈ plainTypes, PySem.W.kitOne K (.type n) (.type "int") = some (n == "int" || n == "bool") := by
  intro n hn
  have : kitB n "int" = some (n == "int" || n == "bool") := by
    revert n hn
    decide +kernel
  exact kit_ty this
theorem kit_bool : ∀ n ∈ plainTypes, PySem.W.kitOne K (.type n) (.type "bool") = some (n == "bool") := by
  intro n hn
  have : kitB n "bool" = some (n == "bool") := by
    revert n hn
    decide +kernel
  exact kit_ty this
theorem kit_list : ∀ n ∈ plainTypes, PySem.W.kitOne K (.type n) (.type "list") = some (n == "list") := by
  intro n hn
  have : kitB n "list" = some (n == "list") := by
    revert n hn
    decide +kernel
  exact kit_ty this
theorem kit_tuple : ∀ n ∈ plainTypes, PySem.W.kitOne K (.type n) (.type "tuple") = some (n == "tuple") := by
  intro n hn
  have : kitB n "tuple" = some (n == "tuple") := by
    revert n hn
    decide +kernel
  exact kit_ty this
theorem int_name (h : Known K H v n) : isInt v = (n == "int") := by
  obtain ⟨h, _⟩ := h
  cases h with
  | base h => cases h <;> rfl
  | kList => rfl
  | kTuple => rfl
  | kDict => rfl
  | fTuple => rfl
  | fDict => rfl
  | byt => rfl
  | set => rfl
variable {ta : TE}
theorem ev_isiInt (ha : Ev ta σ H v) (hk : Known K H v n) : Ev (tCB (rIsi K) (tCons ta (tCons (tC (.ty "int")) tNil))) σ H (.bl (n == "int" || n == "bool")) :=
  ev_isi ha ev_c (.ty "int") (fun _ e => (hk.mono e).1) (kit_int n hk.2)
theorem ev_isiBool (ha : Ev ta σ H v) (hk : Known K H v n) : Ev (tCB (rIsi K) (tCons ta (tCons (tC (.ty "bool")) tNil))) σ H (.bl (n == "bool")) :=
  ev_isi ha ev_c (.ty "bool") (fun _ e => (hk.mono e).1) (kit_bool n hk.2)
theorem ev_isiList (ha : Ev ta σ H v) (hk : Known K H v n) : Ev (tCB (rIsi K) (tCons ta (tCons (tC (.ty "list")) tNil))) σ H (.bl (n == "list")) :=
  ev_isi ha ev_c (.ty "list") (fun _ e => (hk.mono e).1) (kit_list n hk.2)
theorem ev_isiTuple (ha : Ev ta σ H v) (hk : Known K H v n) : Ev (tCB (rIsi K) (tCons ta (tCons (tC (.ty "tuple")) tNil))) σ H (.bl (n == "tuple")) :=
  ev_isi ha ev_c (.ty "tuple") (fun _ e => (hk.mono e).1) (kit_tuple n hk.2)
end
theorem whole_names : ∀ n ∈ plainTypes, ((n == "int" || n == "bool") && !(n == "bool")) = (n == "int") := by decide +kernel
def sp_is_whole (K : PySem.W.Frag) : Sp := fun vs H Q _ => ∃ v n, vs = [v] ∧ Known K H v n ∧ RetV (.bl (isInt v)) H Q
theorem ev_is_whole {K : PySem.W.Frag} {σ : L2.St} {H : Hp} {ta : TA} {E : XK} {v : V} {n : String} (ha : EvA ta σ H [v]) (hk : Known K H v n) : Ev (tCall (sp_is_whole K) [] E ta) σ H (.bl (isInt v)) := fun H1 e Q q =>
  ha H1 e _ fun H2 e2 => ⟨v, n, rfl, hk.mono (e.trans e2), fun H3 e3 => q H3 (e2.trans e3)⟩
def t_is_whole (K : PySem.W.Frag) : TS := (tRet (tAndV (tCB (rIsi K) (tCons (tVar 0) (tCons (tC (.ty "int")) tNil))) (tNotV (tCB (rIsi K) (tCons (tVar 0) (tCons (tC (.ty "bool")) tNil))))))
theorem pure_is_whole {K : PySem.W.Frag} {vs : List V} {H : Hp} {Q : VK} {E : XK} {D : Ends} (hD : D.rt = Q) (h : sp_is_whole K vs H Q E) : t_is_whole K D (start ["thing"] vs) H := by
  obtain ⟨v, n, rfl, hk, q⟩ := h
  subst hD
  refine s_ret (ev_andV (ev_isiInt (ev_var rfl) hk) (fun _ => ev_notV (ev_isiBool (ev_var rfl) hk))) fun H1 e1 => ?_
  have e : ((n == "int" || n == "bool") && !(n == "bool")) = isInt v := by
    rw [int_name hk]
    exact whole_names n hk.2
  rw [e]
  exact q H1 e1
/-! ### check_grid -/
/-- what is no grid -/
def badDim (v : V) : Prop := ∀ n, v = .int n → ¬ (1 ≤ n ∧ n ≤ 6)
def BadG (K : PySem.W.Frag) (H : Hp) (v : V) : Prop := (∃ n, Known K H v n ∧ n ≠ "tuple") ∨ ∃ a xs, v = .ref a ∧ SqT K H a xs ∧ xs.length ≤ 1000 ∧ (∀ x ∈ xs, ∃ n, Known K H x n) ∧ (xs.length ≠ 2 ∨ ∃ x ∈ xs, badDim x)
def sp_check_grid (K : PySem.W.Frag) (C : Ad) : Sp := fun vs H Q E => ∃ v, vs = [v] ∧
  ((∃ g h w, v = .ref g ∧ SqT K H g [.int ((h : Nat) : Int), .int ((w : Nat) : Int)] ∧ GOk h w ∧ RetV .non H Q) ∨ (BadG K H v ∧ RetE C.cBadGrid H E))

def t_check_grid (K : PySem.W.Frag) (C : Ad) (E : XK) : TS := (tIfS (tOr (tNot (tB (tCB (rIsi K) (tCons (tVar 0) (tCons (tC (.ty "tuple")) tNil))))) (tOr (tTest (tOp rNe (tCB (rLenS K) (tCons (tVar 0) tNil)) (tC (.int 2)))) (tNot (tB (tCB (rAll K) (tCons (tLc (iTup K (tVar 0)) (gName 1) tYes (tAndV (tCall (sp_is_whole K) [] E0 (tCons (tVar 1) tNil)) (tChain oLe oLe (tC (.int 1)) (tVar 1) (tC (.int 6)))) [1]) tNil)))))) (tRaise E (.ref C.cBadGrid)) tNext)
theorem known_grid {K : PySem.W.Frag} {H : Hp} {h w : Int} : ∀ x ∈ [V.int h, V.int w], ∃ n, Known K H x n := fun x hx => by
  rcases List.mem_cons.mp hx with e | hx
  · rw [e]; exact ⟨_, known_int h⟩
  · rcases List.mem_cons.mp hx with e | hx
    · rw [e]; exact ⟨_, known_int w⟩
    · cases hx
/-- a whole number within -/
def inRange (lo hi : Int) : V → Bool
  | .int n => decide (lo ≤ n) && decide (n ≤ hi)
  | _ => false
theorem isInt_of {v : V} (h : isInt v = true) : ∃ n, v = .int n := by
  cases v with
  | int n => exact ⟨n, rfl⟩
  | _ => cases h
theorem all_dims {K : PySem.W.Frag} {H : Hp} {g : Addr} {xs : List V} {N : List Str} (hN : N.length = 2) (hs : SqT K H g xs) (hl : xs.length ≤ 1000) (hk : ∀ x ∈ xs, ∃ n, Known K H x n) :
    Ev (tCB (rAll K) (tCons (tLc (iTup K (tVar 0)) (gName 1) tYes (tAndV (tCall (sp_is_whole K) [] E0 (tCons (tVar 1) tNil)) (tChain oLe oLe (tC (.int 1)) (tVar 1) (tC (.int 6)))) [1]) tNil)) [some (.ref g), none] H (.bl (xs.all (inRange 1 6))) := by
  have e : (((xs.filter fun _ => true).map fun x => V.bl (inRange 1 6 x))) = (xs.map (inRange 1 6)).map V.bl := by
    rw [filter_yes, List.map_map]
    rfl
  have w : EvL (tLc (iTup K (tVar 0)) (gName 1) tYes (tAndV (tCall (sp_is_whole K) [] E0 (tCons (tVar 1) tNil)) (tChain oLe oLe (tC (.int 1)) (tVar 1) (tC (.int 6)))) [1]) [some (.ref g), none] H ((xs.map (inRange 1 6)).map V.bl) := by
    rw [← e]
    refine el_lcT (fun _ => true) _ (est_of (ev_var rfl) hs) (by omega) (fun x => rfl) (fun x H1 e1 hx => et_yes) (fun x H1 e1 hx _ => ?_)
    obtain ⟨n, hn⟩ := hk x hx
    have r : inRange 1 6 x = (isInt x && inRange 1 6 x) := by cases x <;> rfl
    rw [r]
    refine ev_andV (ev_is_whole (ea_cons (ev_var rfl) ea_nil) (hn.mono e1)) (fun hi => ?_)
    obtain ⟨m, rfl⟩ := isInt_of hi
    exact ev_chain ev_c (ev_var rfl) rv_I0 (fun _ => ev_c) (fun _ => rv_I0)
  have z := ev_allS (K := K) (es_new (K := K) w)
  rw [List.all_map] at z
  exact z
theorem pure_check_grid {K : PySem.W.Frag} {C : Ad} {vs : List V} {H : Hp} {Q : VK} {E : XK} {D : Ends} (hD : D.nx = fun _ H' => Q .non H') (h : sp_check_grid K C vs H Q E) : t_check_grid K C E D (start ["grid", "one"] vs) H := by
  obtain ⟨v, rfl, h⟩ := h
  rcases h with ⟨g, h, w, rfl, hs, gk, q⟩ | ⟨hb, q⟩
  · have a := all_dims (N := ["grid", "one"]) rfl hs (by simp) known_grid
    refine s_when (et_or (et_not (et_B (ev_isiTuple (ev_var rfl) ⟨ty_tuple hs, by decide⟩))) (fun _ => et_or (et_test (ev_op (ev_lenT (est_of (ev_var rfl) hs)) ev_c (rv_ne rfl))) (fun _ => et_not (et_B a)))) (fun hb => ?_) (fun _ H1 e1 => ?_)
    · exfalso
      obtain ⟨g1, g2, g3, g4⟩ := gk
      have e : ([V.int (h : Int), V.int (w : Int)].all (inRange 1 6)) = true := by
        simp only [List.all_cons, List.all_nil, inRange, Bool.and_true, Bool.and_eq_true, decide_eq_true_eq]
        omega
      rw [e] at hb
      revert hb
      simp
    · rw [hD]
      exact q H1 e1
  · rcases hb with ⟨n, hk, hn⟩ | ⟨a, xs, rfl, hs, hl, hk, hb⟩
    · have e : (n == "tuple") = false := by simpa using hn
      refine s_when (b := true) (et_is (et_or (b := true) (et_not (et_B (ev_isiTuple (ev_var rfl) hk))) (fun z => ?_)) (by rw [e]; rfl)) (fun _ H1 e1 => q H1 e1) (fun z => nomatch z)
      rw [e] at z
      cases z
    · have a := all_dims (N := ["grid", "one"]) rfl hs hl hk
      refine s_when (et_or (et_not (et_B (ev_isiTuple (ev_var rfl) ⟨ty_tuple hs, by decide⟩))) (fun _ => et_or (et_test (ev_op (ev_lenT (est_of (ev_var rfl) hs)) ev_c (rv_ne rfl))) (fun _ => et_not (et_B a)))) (fun _ H1 e1 => q H1 e1) (fun z => ?_)
      exfalso
      rcases hb with hb | ⟨x, hx, hb⟩
      · have e : decide (V.int (xs.length : Int) = V.int 2) = false := decide_eq_false fun z => hb (by have := V.int.inj z; omega)
        rw [e] at z
        simp at z
      · have e : xs.all (inRange 1 6) = false := by
          rw [List.all_eq_false]
          refine ⟨x, hx, ?_⟩
          cases x with
          | int n =>
            have := hb n rfl
            simp only [inRange, Bool.and_eq_true, decide_eq_true_eq]
            exact this
          | _ => simp [inRange]
        rw [e] at z
        simp at z
theorem ev_check_grid {K : PySem.W.Frag} {C : Ad} {σ : L2.St} {H : Hp} {ta : TA} {E : XK} {g : Addr} {h w : Nat} (ha : EvA ta σ H [.ref g]) (hs : SqT K H g [.int (h : Int), .int (w : Int)]) (gk : GOk h w) : Ev (tCall (sp_check_grid K C) [] E ta) σ H .non := fun H1 e Q q =>
  ha H1 e _ fun H2 e2 => ⟨_, rfl, .inl ⟨g, h, w, rfl, ex_t (e.trans e2) hs, gk, fun H3 e3 => q H3 (e2.trans e3)⟩⟩

/-! ### check_cells -/
/-- a whole number from 0, below m -/
def inCells (m : Int) : V → Bool
  | .int n => decide (0 ≤ n) && decide (n < m)
  | _ => false
def BadC (K : PySem.W.Frag) (H : Hp) (m : Int) (v : V) : Prop := (∃ n, Known K H v n ∧ n ≠ "list") ∨ ∃ a xs ds, v = .ref a ∧ SqL K H a xs ∧ DpAll K H xs ds ∧ SeqAt.shaped (.list ds) = true ∧ xs.length ≤ 1000 ∧
  (xs = [] ∨ xs.all (inCells m) = false ∨ ∃ ns : List Int, xs = ns.map V.int ∧ ¬ Rising ns)
def sp_check_cells (K : PySem.W.Frag) (C : Ad) : Sp := fun vs H Q E => ∃ g h w v, vs = [.ref g, v] ∧ SqT K H g [.int ((h : Nat) : Int), .int ((w : Nat) : Int)] ∧ GOk h w ∧
  ((∃ c cs, v = .ref c ∧ SqL K H c (cs.map V.int) ∧ COk h w cs ∧ RetV .non H Q) ∨ (BadC K H ((h : Int) * w) v ∧ RetE C.cBadCells H E))
def t_check_cells (K : PySem.W.Frag) (C : Ad) (E : XK) : TS := (tSeq (tAsg (tOp oMul (tOp (rIxT K) (tVar 0) (tC (.int 0))) (tOp (rIxT K) (tVar 0) (tC (.int 1)))) (gName 2))
      (tSeq (tIfS (tOr (tNot (tB (tCB (rIsi K) (tCons (tVar 1) (tCons (tC (.ty "list")) tNil))))) (tOr (tTest (tOp (rEqD K) (tVar 1) (tLst tNil))) (tNot (tB (tCB (rAll K) (tCons (tLc (iList K (tVar 1)) (gName 3) tYes (tAndV (tCall (sp_is_whole K) [] E0 (tCons (tVar 3) tNil)) (tChain oLe oLt (tC (.int 0)) (tVar 3) (tVar 2))) [3]) tNil)))))) (tRaise E (.ref C.cBadCells)) tNext)
      (tIfS (tB (tCB (rAny K) (tCons (tLc (iZip K (tCons (tVar 1) (tCons (tSl (rSlL K) (tVar 1) (tPart (tC (.int 1))) tNoPart) tNil))) (gTup K 2 (gCons (gName 3) (gCons (gName 4) gNil))) tYes (tOp oGe (tVar 3) (tVar 4)) [3, 4]) tNil))) (tRaise E (.ref C.cBadCells)) tNext)))
theorem shaped_of_len {ds : List PyData} (h1 : PyData.canLayAll0 ds = true) (h2 : PyData.depthAll ds ≤ 63) : SeqAt.shaped (.list ds) = true := by
  have e1 : PyData.canLay0 (.list ds) = true := by
    rw [PyData.canLay0]
    exact h1
  have e2 : PyData.depth (.list ds) ≤ 64 := by
    rw [PyData.depth]
    omega
  unfold SeqAt.shaped
  rw [e1, decide_eq_true e2]
  rfl
theorem lay_ints : ∀ ns : List Int, PyData.canLayAll0 (ns.map PyData.int) = true
  | [] => rfl
  | n :: r => by simp [PyData.canLayAll0, PyData.canLay0, lay_ints r]
theorem depth_ints : ∀ ns : List Int, PyData.depthAll (ns.map PyData.int) ≤ 1
  | [] => by simp [PyData.depthAll]
  | n :: r => by
    have := depth_ints r
    simp only [List.map_cons, PyData.depthAll, PyData.depth]
    omega
theorem shaped_ints (ns : List Int) : SeqAt.shaped (dI ns) = true := shaped_of_len (lay_ints ns) (by have := depth_ints ns; omega)
theorem shaped_nil : SeqAt.shaped (.list []) = true := shaped_ints []
theorem ed_nil {K : PySem.W.Frag} {σ : L2.St} {H : Hp} : EvD K (tLst tNil) σ H (.list []) := fun H1 e Q q => el_lst (σ := σ) (H := H) ea_nil (by simp) H1 e Q fun p H2 _ e2 hp => q _ H2 e2 (.lst (sq_of hp) .nil)
theorem eqv_nil (ds : List PyData) : PyData.eqv (.list ds) (.list []) = decide (ds = []) := by
  cases ds <;> simp [PyData.eqv, PyData.eqvAll]
theorem dpAll_len {K : PySem.W.Frag} {H : Hp} : ∀ {xs : List V} {ds : List PyData}, DpAll K H xs ds → xs.length = ds.length
  | _, _, .nil => rfl
  | _, _, .cons _ h => by rw [List.length_cons, List.length_cons, dpAll_len h]
theorem dpAll_mem {K : PySem.W.Frag} {H : Hp} : ∀ {xs : List V} {ds : List PyData}, DpAll K H xs ds → ∀ x ∈ xs, ∃ d, Dp K H x d
  | _, _, .cons h hs, x, hx => by
    rcases List.mem_cons.mp hx with e | hx
    · rw [e]; exact ⟨_, h⟩
    · exact dpAll_mem hs x hx
theorem all_cells {K : PySem.W.Frag} {H : Hp} {a : Addr} {xs : List V} {m : Int} {y0 : Option V} (hs : SqL K H a xs) (hl : xs.length ≤ 1000) (hk : ∀ x ∈ xs, ∃ n, Known K H x n) :
    Ev (tCB (rAll K) (tCons (tLc (iList K (tVar 1)) (gName 3) tYes (tAndV (tCall (sp_is_whole K) [] E0 (tCons (tVar 3) tNil)) (tChain oLe oLt (tC (.int 0)) (tVar 3) (tVar 2))) [3]) tNil)) [y0, some (.ref a), some (.int m), none, none] H (.bl (xs.all (inCells m))) := by
  have e : (((xs.filter fun _ => true).map fun x => V.bl (inCells m x))) = (xs.map (inCells m)).map V.bl := by
    rw [filter_yes, List.map_map]
    rfl
  have w : EvL (tLc (iList K (tVar 1)) (gName 3) tYes (tAndV (tCall (sp_is_whole K) [] E0 (tCons (tVar 3) tNil)) (tChain oLe oLt (tC (.int 0)) (tVar 3) (tVar 2))) [3]) [y0, some (.ref a), some (.int m), none, none] H ((xs.map (inCells m)).map V.bl) := by
    rw [← e]
    refine el_lc (fun _ => true) _ (es_of (ev_var rfl) hs) (by omega) (fun x => rfl) (fun x H1 e1 hx => et_yes) (fun x H1 e1 hx _ => ?_)
    obtain ⟨n, hn⟩ := hk x hx
    have r : inCells m x = (isInt x && inCells m x) := by cases x <;> rfl
    rw [r]
    refine ev_andV (ev_is_whole (ea_cons (ev_var rfl) ea_nil) (hn.mono e1)) (fun hi => ?_)
    obtain ⟨k, rfl⟩ := isInt_of hi
    exact ev_chain ev_c (ev_var rfl) rv_I0 (fun _ => ev_var rfl) (fun _ => rv_I0)
  have z := ev_allS (K := K) (es_new (K := K) w)
  rw [List.all_map] at z
  exact z
theorem cut1 (xs : List V) : cutV xs (some 1) none = xs.drop 1 := by
  unfold cutV
  rw [show HT.sIx xs.length 0 (some 1) = min 1 xs.length from HT.sIx_nat xs.length 0 1, HT.sIx_none]
  cases xs with
  | nil => rfl
  | cons x r =>
    rw [show min 1 (x :: r).length = 1 by rw [List.length_cons]; omega]
    show (List.take ((x :: r).length - 1) r) = r
    rw [List.length_cons, Nat.add_sub_cancel]
    exact List.take_length
/-- neighbours that do not rise -/
def falls : List Int → Bool
  | x :: y :: r => decide (y ≤ x) || falls (y :: r)
  | _ => false
theorem falls_eq : ∀ ns : List Int, ((ns.zip (ns.drop 1)).map fun p => decide (p.2 ≤ p.1)).any id = falls ns
  | [] => rfl
  | [_] => rfl
  | x :: y :: r => by
    have ih := falls_eq (y :: r)
    simp only [List.drop_succ_cons, List.drop_zero] at ih ⊢
    rw [List.zip_cons_cons, List.map_cons, List.any_cons, ih]
    rfl
theorem falls_rising : ∀ ns : List Int, falls ns = false ↔ Rising ns
  | [] => ⟨fun _ => .nil, fun _ => rfl⟩
  | [x] => ⟨fun _ => List.pairwise_singleton _ x, fun _ => rfl⟩
  | x :: y :: r => by
    have ih := falls_rising (y :: r)
    unfold Rising at ih ⊢
    have e : falls (x :: y :: r) = (decide (y ≤ x) || falls (y :: r)) := rfl
    rw [e, Bool.or_eq_false_iff, ih, decide_eq_false_iff_not]
    constructor
    · rintro ⟨h1, h2⟩
      refine List.pairwise_cons.mpr ⟨fun z hz => ?_, h2⟩
      rcases List.mem_cons.mp hz with rfl | hz
      · omega
      · have := List.rel_of_pairwise_cons h2 hz
        omega
    · intro h
      obtain ⟨h1, h2⟩ := List.pairwise_cons.mp h
      exact ⟨by have := h1 y List.mem_cons_self; omega, h2⟩
theorem any_falls {K : PySem.W.Frag} {H : Hp} {a : Addr} {ns : List Int} {y0 y2 : Option V} (hs : SqL K H a (ns.map V.int)) (hl : ns.length ≤ 1000) :
    Ev (tCB (rAny K) (tCons (tLc (iZip K (tCons (tVar 1) (tCons (tSl (rSlL K) (tVar 1) (tPart (tC (.int 1))) tNoPart) tNil))) (gTup K 2 (gCons (gName 3) (gCons (gName 4) gNil))) tYes (tOp oGe (tVar 3) (tVar 4)) [3, 4]) tNil)) [y0, some (.ref a), y2, none, none] H (.bl (falls ns)) := by
  have s2 : EvL (tSl (rSlL K) (tVar 1) (tPart (tC (.int 1))) tNoPart) [y0, some (.ref a), y2, none, none] H ((ns.drop 1).map V.int) := by
    have := el_sl (K := K) (te := tVar 1) (σ := [y0, some (.ref a), y2, none, none]) (H := H) (ev_var (i := 1) rfl) (eo_some ev_c) eo_none hs (lo := some 1)
    rw [cut1, ← List.map_drop] at this
    exact this
  have w := el_lcZ (K := K) (t := tYes) (te := tOp oGe (tVar 3) (tVar 4)) (σ := [y0, some (.ref a), y2, none, none]) (H := H) (i := 3) (j := 4) (vs := [3, 4]) (fun _ => true) (fun p => match p with | (.int x, .int y) => V.bl (decide (y ≤ x)) | _ => .non)
    (es_of (ev_var (i := 1) rfl) hs) (es_new s2) (by rw [List.length_map]; omega) (fun x y => rfl) (fun _ _ _ _ => et_yes) (fun p H1 e1 hp _ => by
      obtain ⟨x, y⟩ := p
      have hz := List.of_mem_zip hp
      obtain ⟨m, _, rfl⟩ := List.mem_map.mp hz.1
      obtain ⟨k, _, rfl⟩ := List.mem_map.mp hz.2
      exact ev_op (x := .int m) (y := .int k) (ev_var rfl) (ev_var rfl) rv_I0)
  have e : ((((ns.map V.int).zip ((ns.drop 1).map V.int)).filter fun _ => true).map (fun p => match p with | (.int x, .int y) => V.bl (decide (y ≤ x)) | _ => .non)) = ((ns.zip (ns.drop 1)).map fun p => decide (p.2 ≤ p.1)).map V.bl := by
    rw [filter_yes, List.zip_map, List.map_map, List.map_map]
    rfl
  rw [e] at w
  have z := ev_anyS (K := K) (es_new (K := K) w)
  rw [falls_eq] at z
  exact z
theorem rising_len {m : Int} : ∀ (cs : List Int) (lo : Int), Rising cs → (∀ x ∈ cs, lo ≤ x ∧ x < m) → (cs.length : Int) ≤ max 0 (m - lo)
  | [], _, _, _ => by simp; omega
  | x :: r, lo, h, hb => by
    have h1 := (List.pairwise_cons.mp h).1
    have ih := rising_len r (x + 1) (List.pairwise_cons.mp h).2 (fun y hy => ⟨by have := h1 y hy; omega, (hb y (List.mem_cons_of_mem _ hy)).2⟩)
    have hx := hb x List.mem_cons_self
    rw [List.length_cons]
    omega
theorem cok_len {h w : Nat} {cs : List Int} (gk : GOk h w) (c : COk h w cs) : cs.length ≤ 36 := by
  have := rising_len cs 0 c.2.2 c.2.1
  have := hw_le gk
  omega
theorem pure_check_cells {K : PySem.W.Frag} {C : Ad} {vs : List V} {H : Hp} {Q : VK} {E : XK} {D : Ends} (hD : D.nx = fun _ H' => Q .non H') (h : sp_check_cells K C vs H Q E) : t_check_cells K C E D (start ["grid", "cells", "many", "one", "other"] vs) H := by
  obtain ⟨g, h, w, v, rfl, hg, gk, hv⟩ := h
  change t_check_cells K C E D [some (.ref g), some v, none, none, none] H
  have hwl := hw_le gk
  have gb := gk
  obtain ⟨g1, g2, g3, g4⟩ := gb
  refine q_asg (v := .int ((h : Int) * w)) (by walk_at "ev") fun H1 e1 => ?_
  rcases hv with ⟨c, cs, rfl, hc, ck, q⟩ | ⟨hb, q⟩
  · have cl := cok_len gk ck
    have hc1 := ex_l e1 hc
    have kn : ∀ x ∈ cs.map V.int, ∃ n, Known K H1 x n := fun x hx => by
      obtain ⟨m, _, rfl⟩ := List.mem_map.mp hx
      exact ⟨_, known_int m⟩
    have a := all_cells (K := K) (H := H1) (y0 := some (.ref g)) (m := (h : Int) * w) hc1 (by rw [List.length_map]; omega) kn
    have ea : (cs.map V.int).all (inCells ((h : Int) * w)) = true := by
      rw [List.all_map]
      refine List.all_eq_true.mpr fun x hx => ?_
      have := ck.2.1 x hx
      simp only [Function.comp, inCells, Bool.and_eq_true, decide_eq_true_eq]
      exact this
    rw [ea] at a
    have en : PyData.eqv (dI cs) (.list []) = false := by
      unfold dI
      rw [eqv_nil]
      simp [ck.1]
    refine q_when (b := false) (et_is (et_or (b := false) (et_not (et_B (ev_isiList (ev_var rfl) ⟨ty_list hc1, by decide⟩))) (fun _ => et_is (et_or (et_test (ev_eqD (ed_ints (es_of (ev_var rfl) hc1)) ed_nil (shaped_ints cs) shaped_nil)) (fun _ => et_not (et_B a))) (by rw [en]; rfl))) (by simp)) (fun z => nomatch z) (fun _ H2 e2 => ?_)
    have f := any_falls (K := K) (H := H2) (ns := cs) (y0 := some (.ref g)) (y2 := some (.int ((h : Int) * w))) (ex_l e2 hc1) (by omega)
    rw [(falls_rising cs).mpr ck.2.2] at f
    refine s_when (et_B f) (fun z => nomatch z) (fun _ H3 e3 => ?_)
    rw [hD]
    exact q H3 ((e1.trans e2).trans e3)
  · have q1 : ∀ H2, Ex H1 H2 → E (.ref C.cBadCells) none H2 := fun H2 e2 => q H2 (e1.trans e2)
    rcases hb with ⟨n, hk, hn⟩ | ⟨a, xs, ds, rfl, hs, hd, hsh, hl, hb⟩
    · have e : (n == "list") = false := by simpa using hn
      refine q_when (b := true) (et_is (et_or (b := true) (et_not (et_B (ev_isiList (ev_var rfl) (hk.mono e1)))) (fun z => ?_)) (by rw [e]; rfl)) (fun _ H2 e2 => q1 H2 e2) (fun z => nomatch z)
      rw [e] at z
      cases z
    · have hs1 := ex_l e1 hs
      have hd1 := DpAll.mono e1 hd
      have kn : ∀ x ∈ xs, ∃ n, Known K H1 x n := fun x hx => by
        obtain ⟨d, hd⟩ := dpAll_mem hd1 x hx
        exact known_dp hd
      have a1 := all_cells (K := K) (H := H1) (y0 := some (.ref g)) (m := (h : Int) * w) hs1 hl kn
      have t := et_or (et_not (et_B (ev_isiList (K := K) (σ := [some (.ref g), some (.ref a), some (.int ((h : Int) * w)), none, none]) (H := H1) (ta := tVar 1) (ev_var rfl) ⟨ty_list hs1, by decide⟩))) (fun _ => et_or (et_test (ev_eqD (ed_of (ev_var (i := 1) rfl) (.lst hs1 hd1)) ed_nil hsh shaped_nil)) (fun _ => et_not (et_B a1)))
      refine q_when t (fun _ H2 e2 => q1 H2 e2) (fun z H2 e2 => ?_)
      rcases hb with hb | hb | ⟨ns, rfl, hr⟩
      · exfalso
        subst hb
        have : ds = [] := by
          have := dpAll_len hd
          cases ds with
          | nil => rfl
          | cons _ _ => simp at this
        subst this
        simp [PyData.eqv, PyData.eqvAll] at z
      · rw [hb] at z
        simp at z
      · rw [List.length_map] at hl
        have f := any_falls (K := K) (H := H2) (ns := ns) (y0 := some (.ref g)) (y2 := some (.int ((h : Int) * w))) (ex_l e2 hs1) hl
        have fr : falls ns = true := by
          cases hf : falls ns with
          | true => rfl
          | false => exact absurd ((falls_rising ns).mp hf) hr
        rw [fr] at f
        exact s_when (et_B f) (fun _ H3 e3 => q1 H3 (e2.trans e3)) (fun z => nomatch z)
theorem ev_check_cells {K : PySem.W.Frag} {C : Ad} {σ : L2.St} {H : Hp} {ta : TA} {E : XK} {g c : Addr} {h w : Nat} {cs : List Int} (ha : EvA ta σ H [.ref g, .ref c]) (hs : SqT K H g [.int (h : Int), .int (w : Int)]) (gk : GOk h w) (hc : SqL K H c (cs.map V.int)) (ck : COk h w cs) : Ev (tCall (sp_check_cells K C) [] E ta) σ H .non := fun H1 e Q q =>
  ha H1 e _ fun H2 e2 => ⟨g, h, w, _, rfl, ex_t (e.trans e2) hs, gk, .inl ⟨c, cs, rfl, ex_l (e.trans e2) hc, ck, fun H3 e3 => q H3 (e2.trans e3)⟩⟩

/-! ### new lists of new lists -/
def NewLL (H1 : Hp) (v : V) (H2 : Hp) (xss : List (List V)) : Prop := ∃ p ps, v = .ref p ∧ H1 p = none ∧ H2 p = some (.lst (ps.map V.ref)) ∧ Paired (fun (q : Addr) xs => H1 q = none ∧ H2 q = some (.lst xs)) ps xss
def ints2 (nss : List (List Int)) : List (List V) := nss.map fun ns => ns.map V.int
def dII (nss : List (List Int)) : PyData := .list (nss.map dI)
def RetP (R : Hp → V → Hp → Prop) (H : Hp) (Q : VK) : Prop := ∀ v H2, Ex H H2 → R H v H2 → Q v H2
theorem NewLL.back {H0 H1 H2 : Hp} {v : V} {xss : List (List V)} (e : Ex H0 H1) (h : NewLL H1 v H2 xss) : NewLL H0 v H2 xss := by
  obtain ⟨p, ps, rfl, hp, h2, hr⟩ := h
  exact ⟨p, ps, rfl, fresh_back e hp, h2, Paired.mapP hr fun q xs z => ⟨fresh_back e z.1, z.2⟩⟩
theorem NewLL.on {H1 H2 H3 : Hp} {v : V} {xss : List (List V)} (e : Ex H2 H3) (h : NewLL H1 v H2 xss) : NewLL H1 v H3 xss := by
  obtain ⟨p, ps, rfl, hp, h2, hr⟩ := h
  exact ⟨p, ps, rfl, hp, e _ _ h2, Paired.mapP hr fun q xs z => ⟨z.1, e _ _ z.2⟩⟩
theorem dpAll_rows {K : PySem.W.Frag} {H1 H2 : Hp} : ∀ {ps : List Addr} {nss : List (List Int)}, Paired (fun (q : Addr) xs => H1 q = none ∧ H2 q = some (.lst xs)) ps (ints2 nss) → DpAll K H2 (ps.map V.ref) (nss.map dI)
  | [], [], .nil => .nil
  | p :: ps, ns :: nss, .cons h hs => .cons (dp_ints (sq_of h.2)) (dpAll_rows hs)
theorem NewLL.dp {K : PySem.W.Frag} {H1 H2 : Hp} {v : V} {nss : List (List Int)} (h : NewLL H1 v H2 (ints2 nss)) : Dp K H2 v (dII nss) := by
  obtain ⟨p, ps, rfl, hp, h2, hr⟩ := h
  exact .lst (sq_of h2) (dpAll_rows hr)
section
variable {K : PySem.W.Frag} {σ : L2.St} {H H' : Hp} {te : TE} {t : TT}
theorem paired_snoc {α β : Type} {F : α → β → Prop} : ∀ {l : List α} {m : List β} {a : α} {b : β}, Paired F l m → F a b → Paired F (l ++ [a]) (m ++ [b])
  | [], [], _, _, .nil, h => .cons h .nil
  | _ :: _, _ :: _, _, _, .cons g gs, h => .cons g (paired_snoc gs h)
/-- [e for i in range(n)], e a new list -/
theorem ep_lcRL {ta : TA} {j : Nat} {vs : List Nat} {n : Nat} (g : Nat → List V) (h : EvA ta σ H [.int (n : Int)]) (hn : n ≤ 40000) (hw : ∀ x, wipe ((wipe σ vs).set j (some x)) vs = wipe σ vs)
    (he : ∀ (i : Nat) H1, Ex H H1 → i < n → EvL te ((wipe σ vs).set j (some (.int (i : Int)))) H1 (g i)) :
    EvP (tLc (iRng1 ta) (gName j) tYes te vs) σ H (fun H1 v H2 => NewLL H1 v H2 ((List.range n).map g)) := fun H0 e Q q => h H0 e _ fun H1 e1 => ⟨(n : Int), rfl, by omega, by omega, fun Dl hD => by
  have e0 : ((n : Int)).toNat = n := Int.toNat_natCast n
  rw [e0]
  refine lc_range (lo := 0) (n := n) (fun i H' => H1 Dl = none ∧ Ex H1 H' ∧ i ≤ n ∧ ∃ ps, H' Dl = some (.lst (ps.map V.ref)) ∧ ps.length = i ∧ Paired (fun (q : Addr) xs => (H1 q = none ∧ q ≠ Dl) ∧ H' q = some (.lst xs)) ps ((List.range i).map g)) ⟨hD, Ex.new hD, Nat.zero_le _, [], upd_same, rfl, .nil⟩ (fun i H' hi p => ?_) (fun H' p => ?_)
  · obtain ⟨p1, p2, _, ps, p3, pl, p4⟩ := p
    have z0 : (0 : Int) + (i : Int) = (i : Int) := Int.zero_add _
    show wipe ((wipe σ vs).set j (some (.int ((0 : Int) + (i : Int))))) vs = wipe σ vs ∧ te ((wipe σ vs).set j (some (.int ((0 : Int) + (i : Int))))) H' _
    rw [z0]
    refine ⟨hw _, he i H1 (e.trans e1) hi H' p2 _ fun p H4 hp e4 h4 => ?_⟩
    have ne : p ≠ Dl := (ne_of_none p3 hp).symm
    refine ⟨_, e4 _ _ p3, sz_lt (by rw [List.length_map]; omega), p1, Ex.mut (p2.trans e4) p1, hi, ps ++ [p], ?_, ?_, ?_⟩
    · rw [upd_same, List.map_append]; rfl
    · rw [List.length_append, pl]; rfl
    · rw [List.range_succ, List.map_append]
      refine paired_snoc (Paired.mapP p4 fun q xs z => ⟨z.1, ?_⟩) ⟨⟨fresh_back p2 hp, ne⟩, ?_⟩
      · rw [upd_ne z.1.2]; exact e4 _ _ z.2
      · rw [upd_ne ne]; exact h4
  · obtain ⟨p1, p2, _, ps, p3, _, p4⟩ := p
    exact q _ H' (e1.trans p2) ⟨Dl, ps, rfl, fresh_back e1 p1, p3, Paired.mapP p4 fun q xs z => ⟨fresh_back e1 z.1.1, z.2⟩⟩⟩
theorem s_retP {R : Hp → V → Hp → Prop} {D : Ends} (h : EvP te σ H R) (k : ∀ v H1, Ex H H1 → R H v H1 → D.rt v H1) : tRet te D σ H := h H (Ex.refl H) _ k
end
/-! ### beside -/
def sp_beside (K : PySem.W.Frag) : Sp := fun vs H Q _ => ∃ g h w x, vs = [.ref g, .int x] ∧ SqT K H g [.int ((h : Nat) : Int), .int ((w : Nat) : Int)] ∧ GOk h w ∧ RetL ((beside h w x).map V.int) H Q
theorem el_beside {K : PySem.W.Frag} {σ : L2.St} {H : Hp} {ta : TA} {E : XK} {g : Addr} {h w : Nat} {x : Int} (ha : EvA ta σ H [.ref g, .int x]) (hs : SqT K H g [.int (h : Int), .int (w : Int)]) (gk : GOk h w) : EvL (tCall (sp_beside K) [] E ta) σ H ((beside h w x).map V.int) := fun H1 e Q q =>
  ha H1 e _ fun H2 e2 => ⟨g, h, w, x, rfl, ex_t (e.trans e2) hs, gk, fun p H3 hp e3 h3 => q p H3 (fresh_back e2 hp) (e2.trans e3) h3⟩
def t_beside (K : PySem.W.Frag) : TS := (tSeq (tAsg (tVar 0) (gTup K 2 (gCons (gName 2) (gCons (gName 3) gNil))))
      (tSeq (tAsg (tLst tNil) (gName 4))
      (tSeq (tIfS (tTest (tOp oGe (tVar 1) (tVar 3))) (tDrop (tBM K "list" rAppend (tVar 4) (tCons (tOp oSub (tVar 1) (tVar 3)) tNil))) tNext)
      (tSeq (tIfS (tTest (tOp oGt (tOp oMod (tVar 1) (tVar 3)) (tC (.int 0)))) (tDrop (tBM K "list" rAppend (tVar 4) (tCons (tOp oSub (tVar 1) (tC (.int 1))) tNil))) tNext)
      (tSeq (tIfS (tTest (tOp oLt (tOp oMod (tVar 1) (tVar 3)) (tOp oSub (tVar 3) (tC (.int 1))))) (tDrop (tBM K "list" rAppend (tVar 4) (tCons (tOp oAdd (tVar 1) (tC (.int 1))) tNil))) tNext)
      (tSeq (tIfS (tTest (tOp oLt (tVar 1) (tOp oMul (tVar 3) (tOp oSub (tVar 2) (tC (.int 1)))))) (tDrop (tBM K "list" rAppend (tVar 4) (tCons (tOp oAdd (tVar 1) (tVar 3)) tNil))) tNext)
      (tRet (tVar 4))))))))
theorem pure_beside {K : PySem.W.Frag} {vs : List V} {H : Hp} {Q : VK} {E : XK} {D : Ends} (hD : D.rt = Q) (h : sp_beside K vs H Q E) : t_beside K D (start ["grid", "cell", "high", "wide", "found"] vs) H := by
  obtain ⟨g, h, w, x, rfl, hs, gk, q⟩ := h
  subst hD
  obtain ⟨g1, g2, g3, g4⟩ := gk
  change t_beside K D [some (.ref g), some (.int x), none, none, none] H
  refine q_unp (i := 2) (j := 3) (est_of (ev_var rfl) hs) fun H1 e1 => ?_
  refine q_asgL (i := 4) (el_lst ea_nil (by simp)) fun p H2 hp e2 h2 => ?_
  refine q_ifApp (v := .int (x - w)) (by walk_at "et") h2 (ev_var rfl) (fun _ => by walk_at "ev") (by simp) fun H3 k3 h3 => ?_
  refine q_ifApp (v := .int (x - 1)) (by walk_at "et") h3 (ev_var rfl) (fun _ => by walk_at "ev") (by simp only [List.length_append]; split <;> simp) fun H4 k4 h4 => ?_
  refine q_ifApp (v := .int (x + 1)) (by walk_at "et") h4 (ev_var rfl) (fun _ => by walk_at "ev") (by simp only [List.length_append]; split <;> split <;> simp) fun H5 k5 h5 => ?_
  refine q_ifApp (v := .int (x + w)) (by walk_at "et") h5 (ev_var rfl) (fun _ => by walk_at "ev") (by simp only [List.length_append]; split <;> split <;> split <;> simp) fun H6 k6 h6 => ?_
  refine s_ret (ev_var rfl) fun H7 e7 => q p H7 (fresh_back e1 hp) (fun c o ho => ?_) ?_
  · have ne : c ≠ p := ne_of_none (e1 _ _ ho) hp
    exact e7 _ _ (k6 c o ne (k5 c o ne (k4 c o ne (k3 c o ne (e2 _ _ (e1 _ _ ho))))))
  · rw [e7 _ _ h6]
    congr 2
    unfold beside besideA besideB besideC besideD
    simp only [List.map_append, decide_eq_true_eq, List.nil_append]
    congr 1
    · congr 1
      · congr 1
        · split <;> rfl
        · split <;> rfl
      · split <;> rfl
    · split <;> rfl
/-! ### sides_of -/
def sp_sides_of (K : PySem.W.Frag) : Sp := fun vs H Q _ => ∃ g c h w x cs, vs = [.ref g, .ref c, .int x] ∧ SqT K H g [.int ((h : Nat) : Int), .int ((w : Nat) : Int)] ∧ GOk h w ∧ SqL K H c ((cs : List Int).map V.int) ∧ RetV (.int (sidesOf h w cs x)) H Q
theorem ev_sides_of {K : PySem.W.Frag} {σ : L2.St} {H : Hp} {ta : TA} {E : XK} {g c : Addr} {h w : Nat} {x : Int} {cs : List Int} (ha : EvA ta σ H [.ref g, .ref c, .int x]) (hs : SqT K H g [.int (h : Int), .int (w : Int)]) (gk : GOk h w) (hc : SqL K H c (cs.map V.int)) : Ev (tCall (sp_sides_of K) [] E ta) σ H (.int (sidesOf h w cs x)) := fun H1 e Q q =>
  ha H1 e _ fun H2 e2 => ⟨g, c, h, w, x, cs, rfl, ex_t (e.trans e2) hs, gk, ex_l (e.trans e2) hc, fun H3 e3 => q H3 (e2.trans e3)⟩
def t_sides_of (K : PySem.W.Frag) : TS := (tSeq (tAsg (tCB (rLenS K) (tCons (tLc (iList K (tCall (sp_beside K) [] E0 (tCons (tVar 0) (tCons (tVar 2) tNil)))) (gName 4) (tTest (tOp (rIn K false) (tVar 4) (tVar 1))) (tVar 4) [4]) tNil)) (gName 3))
      (tRet (tIf (tTest (tOp (rIn K false) (tVar 2) (tVar 1))) (tOp oSub (tC (.int 4)) (tVar 3)) (tVar 3))))
theorem pure_sides_of {K : PySem.W.Frag} {vs : List V} {H : Hp} {Q : VK} {E : XK} {D : Ends} (hD : D.rt = Q) (h : sp_sides_of K vs H Q E) : t_sides_of K D (start ["grid", "cells", "cell", "near", "one"] vs) H := by
  obtain ⟨g, c, h, w, x, cs, rfl, hs, gk, hc, q⟩ := h
  subst hD
  change t_sides_of K D [some (.ref g), some (.ref c), some (.int x), none, none] H
  have b := el_beside (E := E0) (K := K) (σ := [some (.ref g), some (.ref c), some (.int x), none, none]) (ta := tCons (tVar 0) (tCons (tVar 2) tNil)) (ea_cons (ev_var rfl) (ea_cons (ev_var rfl) ea_nil)) hs gk
  have l := el_lcI (K := K) (t := tTest (tOp (rIn K false) (tVar 4) (tVar 1))) (te := tVar 4) (j := 4) (vs := [4]) (fun o => decide (o ∈ cs)) V.int (es_new b) (by have := beside_len h w x; omega) (fun x => rfl)
    (fun n H1 e1 hn => et_test (ev_isIn (ev_var rfl) (es_of (ev_var rfl) (ex_l e1 hc)))) (fun n H1 e1 hn _ => ev_var rfl)
  refine q_asg (ev_lenN l) fun H1 e1 => ?_
  rw [List.length_map]
  have hc1 := ex_l e1 hc
  refine s_ret (v := .int (sidesOf h w cs x)) (ev_if (b := decide (x ∈ cs)) (by walk_at "et") (fun hb => ?_) (fun hb => ?_)) fun H2 e2 => q H2 (e1.trans e2)
  · have : sidesOf h w cs x = 4 - (near h w cs x : Int) := if_pos (of_decide_eq_true hb)
    rw [this]
    exact ev_op ev_c (ev_var rfl) rv_I0
  · have : sidesOf h w cs x = (near h w cs x : Int) := if_neg (of_decide_eq_false hb)
    rw [this]
    exact ev_var rfl
/-! ### numbers_of -/
def sp_numbers_of (K : PySem.W.Frag) : Sp := fun vs H Q _ => ∃ g c h w cs, vs = [.ref g, .ref c] ∧ SqT K H g [.int ((h : Nat) : Int), .int ((w : Nat) : Int)] ∧ GOk h w ∧ SqL K H c ((cs : List Int).map V.int) ∧ RetP (fun H1 v H2 => NewLL H1 v H2 (ints2 (numbersOf h w cs))) H Q
theorem ep_numbers_of {K : PySem.W.Frag} {σ : L2.St} {H : Hp} {ta : TA} {E : XK} {g c : Addr} {h w : Nat} {cs : List Int} (ha : EvA ta σ H [.ref g, .ref c]) (hs : SqT K H g [.int (h : Int), .int (w : Int)]) (gk : GOk h w) (hc : SqL K H c (cs.map V.int)) :
    EvP (tCall (sp_numbers_of K) [] E ta) σ H (fun H1 v H2 => NewLL H1 v H2 (ints2 (numbersOf h w cs))) := fun H1 e Q q =>
  ha H1 e _ fun H2 e2 => ⟨g, c, h, w, cs, rfl, ex_t (e.trans e2) hs, gk, ex_l (e.trans e2) hc, fun v H3 e3 z => q v H3 (e2.trans e3) (z.back e2)⟩
def t_numbers_of (K : PySem.W.Frag) : TS := (tSeq (tAsg (tVar 0) (gTup K 2 (gCons (gName 2) (gCons (gName 3) gNil))))
      (tRet (tLc (iRng1 (tCons (tVar 2) tNil)) (gName 4) tYes (tLc (iRng1 (tCons (tVar 3) tNil)) (gName 5) tYes (tCall (sp_sides_of K) [] E0 (tCons (tVar 0) (tCons (tVar 1) (tCons (tOp oAdd (tOp oMul (tVar 4) (tVar 3)) (tVar 5)) tNil)))) [5]) [4])))
theorem pure_numbers_of {K : PySem.W.Frag} {vs : List V} {H : Hp} {Q : VK} {E : XK} {D : Ends} (hD : D.rt = Q) (h : sp_numbers_of K vs H Q E) : t_numbers_of K D (start ["grid", "cells", "high", "wide", "row", "at"] vs) H := by
  obtain ⟨g, c, h, w, cs, rfl, hs, gk, hc, q⟩ := h
  subst hD
  change t_numbers_of K D [some (.ref g), some (.ref c), none, none, none, none] H
  have gb := gk
  obtain ⟨g1, g2, g3, g4⟩ := gb
  refine q_unp (i := 2) (j := 3) (est_of (ev_var rfl) hs) fun H1 e1 => ?_
  have k := ep_lcRL (σ := [some (.ref g), some (.ref c), some (.int (h : Int)), some (.int (w : Int)), none, none]) (H := H1) (j := 4) (vs := [4]) (n := h) (ta := tCons (tVar 2) tNil)
    (te := tLc (iRng1 (tCons (tVar 3) tNil)) (gName 5) tYes (tCall (sp_sides_of K) [] E0 (tCons (tVar 0) (tCons (tVar 1) (tCons (tOp oAdd (tOp oMul (tVar 4) (tVar 3)) (tVar 5)) tNil)))) [5])
    (fun i => ((List.range w).map fun (a : Nat) => sidesOf h w cs ((i : Int) * w + (a : Int))).map V.int) (ea_cons (ev_var rfl) ea_nil) (by omega) (fun x => rfl) (fun i H2 e2 hi => by
      have l := el_lcR (σ := [some (.ref g), some (.ref c), some (.int (h : Int)), some (.int (w : Int)), some (.int (i : Int)), none]) (H := H2) (t := tYes) (te := tCall (sp_sides_of K) [] E0 (tCons (tVar 0) (tCons (tVar 1) (tCons (tOp oAdd (tOp oMul (tVar 4) (tVar 3)) (tVar 5)) tNil)))) (j := 5) (vs := [5]) (n := w) (ta := tCons (tVar 3) tNil)
        (fun _ => true) (fun a => V.int (sidesOf h w cs ((i : Int) * w + (a : Int)))) (ea_cons (ev_var rfl) ea_nil) (by omega) (fun x => rfl) (fun _ _ _ _ => et_yes) (fun a H3 e3 ha _ =>
          ev_sides_of (ea_cons (ev_var rfl) (ea_cons (ev_var rfl) (ea_cons (by walk_at "ev") ea_nil))) (ex_t ((e1.trans e2).trans e3) hs) gk (ex_l ((e1.trans e2).trans e3) hc))
      rw [filter_yes] at l
      rw [List.map_map]
      exact l)
  refine s_retP k fun v H2 e2 z => q v H2 (e1.trans e2) (z.back e1 |> fun z => ?_)
  unfold ints2 numbersOf
  rw [List.map_map]
  exact z
/-! ### numbers -/
def sp_numbers (K : PySem.W.Frag) (C : Ad) : Sp := fun vs H Q E => ∃ v u, vs = [v, u] ∧
  ((BadG K H v ∧ RetE C.cBadGrid H E) ∨
   (∃ g h w, v = .ref g ∧ SqT K H g [.int ((h : Nat) : Int), .int ((w : Nat) : Int)] ∧ GOk h w ∧ ((BadC K H ((h : Int) * w) u ∧ RetE C.cBadCells H E) ∨
     ∃ c cs, u = .ref c ∧ SqL K H c (cs.map V.int) ∧ COk h w cs ∧ RetP (fun H1 v H2 => NewLL H1 v H2 (ints2 (numbersOf h w cs))) H Q)))
theorem ep_numbers {K : PySem.W.Frag} {C : Ad} {σ : L2.St} {H : Hp} {ta : TA} {E : XK} {g c : Addr} {h w : Nat} {cs : List Int} (ha : EvA ta σ H [.ref g, .ref c]) (hs : SqT K H g [.int (h : Int), .int (w : Int)]) (gk : GOk h w) (hc : SqL K H c (cs.map V.int)) (ck : COk h w cs) :
    EvP (tCall (sp_numbers K C) [] E ta) σ H (fun H1 v H2 => NewLL H1 v H2 (ints2 (numbersOf h w cs))) := fun H1 e Q q =>
  ha H1 e _ fun H2 e2 => ⟨_, _, rfl, .inr ⟨g, h, w, rfl, ex_t (e.trans e2) hs, gk, .inr ⟨c, cs, rfl, ex_l (e.trans e2) hc, ck, fun v H3 e3 z => q v H3 (e2.trans e3) (z.back e2)⟩⟩⟩
def t_numbers (K : PySem.W.Frag) (C : Ad) (E : XK) : TS := (tSeq (tDrop (tCall (sp_check_grid K C) [] E (tCons (tVar 0) tNil)))
      (tSeq (tDrop (tCall (sp_check_cells K C) [] E (tCons (tVar 0) (tCons (tVar 1) tNil))))
      (tRet (tCall (sp_numbers_of K) [] E0 (tCons (tVar 0) (tCons (tVar 1) tNil))))))
theorem pure_numbers {K : PySem.W.Frag} {C : Ad} {vs : List V} {H : Hp} {Q : VK} {E : XK} {D : Ends} (hD : D.rt = Q) (h : sp_numbers K C vs H Q E) : t_numbers K C E D (start ["grid", "cells"] vs) H := by
  obtain ⟨v, u, rfl, h⟩ := h
  subst hD
  change t_numbers K C E D [some v, some u] H
  rcases h with ⟨hb, q⟩ | ⟨g, h, w, rfl, hs, gk, h⟩
  · exact ⟨v, rfl, v, rfl, .inr ⟨hb, q⟩⟩
  · refine q_drop (ev_check_grid (ea_cons (ev_var rfl) ea_nil) hs gk) fun H1 e1 => ?_
    rcases h with ⟨hb, q⟩ | ⟨c, cs, rfl, hc, ck, q⟩
    · refine ⟨_, rfl, u, rfl, g, h, w, u, rfl, ex_t e1 hs, gk, .inr ⟨?_, fun H2 e2 => q H2 (e1.trans e2)⟩⟩
      rcases hb with ⟨n, hk, hn⟩ | ⟨a, xs, ds, rfl, h1, h2, h3⟩
      · exact .inl ⟨n, hk.mono e1, hn⟩
      · exact .inr ⟨a, xs, ds, rfl, ex_l e1 h1, DpAll.mono e1 h2, h3⟩
    · refine q_drop (ev_check_cells (ea_cons (ev_var rfl) (ea_cons (ev_var rfl) ea_nil)) (ex_t e1 hs) gk (ex_l e1 hc) ck) fun H2 e2 => ?_
      refine s_retP (ep_numbers_of (ea_cons (ev_var rfl) (ea_cons (ev_var rfl) ea_nil)) (ex_t (e1.trans e2) hs) gk (ex_l (e1.trans e2) hc)) fun v H3 e3 z => q v H3 ((e1.trans e2).trans e3) (z.back (e1.trans e2))

/-! ### spread -/
def sp_spread (K : PySem.W.Frag) : Sp := fun vs H Q _ => ∃ g c h w x cs, vs = [.ref g, .int x, .ref c] ∧ SqT K H g [.int ((h : Nat) : Int), .int ((w : Nat) : Int)] ∧ GOk h w ∧ SqL K H c ((cs : List Int).map V.int) ∧ cs.length ≤ 1000 ∧ RetL ((spread h w x cs).map V.int) H Q
theorem el_spread {K : PySem.W.Frag} {σ : L2.St} {H : Hp} {ta : TA} {E : XK} {g c : Addr} {h w : Nat} {x : Int} {cs : List Int} (ha : EvA ta σ H [.ref g, .int x, .ref c]) (hs : SqT K H g [.int (h : Int), .int (w : Int)]) (gk : GOk h w) (hc : SqL K H c (cs.map V.int)) (hl : cs.length ≤ 1000) : EvL (tCall (sp_spread K) [] E ta) σ H ((spread h w x cs).map V.int) := fun H1 e Q q =>
  ha H1 e _ fun H2 e2 => ⟨g, c, h, w, x, cs, rfl, ex_t (e.trans e2) hs, gk, ex_l (e.trans e2) hc, hl, fun p H3 hp e3 h3 => q p H3 (fresh_back e2 hp) (e2.trans e3) h3⟩
def t_spread (K : PySem.W.Frag) : TS := (tSeq (tAsg (tTup (tCons (tLst (tCons (tVar 1) tNil)) (tCons (tC (.int 0)) tNil))) (gTup K 2 (gCons (gName 3) (gCons (gName 4) gNil))))
      (tSeq (tWhile (tTest (tOp oLt (tVar 4) (tCB (rLenS K) (tCons (tVar 3) tNil)))) (tSeq (tDrop (tBM K "list" rExtend (tVar 3) (tCons (tLc (iList K (tCall (sp_beside K) [] E0 (tCons (tVar 0) (tCons (tOp (rIxL K) (tVar 3) (tVar 4)) tNil)))) (gName 5) (tAnd (tTest (tOp (rIn K false) (tVar 5) (tVar 2))) (tTest (tOp (rIn K true) (tVar 5) (tVar 3)))) (tVar 5) [5]) tNil)))
      (tAug 4 (tC (.int 1)) (ipI fun i j => i + j))))
      (tRet (tVar 3))))
theorem pure_spread {K : PySem.W.Frag} {vs : List V} {H : Hp} {Q : VK} {E : XK} {D : Ends} (hD : D.rt = Q) (h : sp_spread K vs H Q E) : t_spread K D (start ["grid", "first", "some", "found", "at", "one"] vs) H := by
  obtain ⟨g, c, h, w, x, cs, rfl, hs, gk, hc, hl, q⟩ := h
  subst hD
  change t_spread K D [some (.ref g), some (.int x), some (.ref c), none, none, none] H
  refine q_tupLV (i := 3) (j := 4) (xs := [x].map V.int) (y := .int 0) (el_lst (ea_cons (ev_var rfl) ea_nil) (by simp)) ev_c fun p H1 hp e1 h1 => ?_
  refine q_while (fun m σ' H' => ∃ (f : List Int) (a : Nat), σ' = [some (.ref g), some (.int x), some (.ref c), some (.ref p), some (.int (a : Int)), none] ∧ Ex H H' ∧ H' p = some (.lst (f.map V.int)) ∧ f.Nodup ∧ (∀ o ∈ f, o ∈ x :: cs) ∧ m + a = cs.length + 2 ∧ spreadGo h w cs m f a = spread h w x cs)
    (cs.length + 2) ⟨[x], 0, rfl, e1, h1, by simp, by simp, by omega, rfl⟩ fun m σ' H' hW => ?_
  obtain ⟨f, a, rfl, e2, h2, fn, fs, hm, hg⟩ := hW
  have fl : f.length ≤ cs.length + 1 := nodup_sub (m := x :: cs) fn fs
  have lm : (f.map V.int).length = f.length := List.length_map ..
  refine ⟨decide ((a : Int) < (f.length : Int)), et_test (ev_op (x := .int (a : Int)) (y := .int (f.length : Int)) (ev_var rfl) (ev_is (ev_lenS (K := K) (es_of (ev_var rfl) (sq_of h2))) (by rw [lm])) rv_I0), fun hb H3 e3 => ?_, fun hb H3 e3 => ?_⟩
  · have ha : a < f.length := by have := of_decide_eq_true hb; omega
    cases m with
    | zero => omega
    | succ m =>
      have hfa : f[a]? = some f[a] := List.getElem?_eq_getElem ha
      unfold spreadGo at hg
      rw [hfa] at hg
      dsimp only at hg
      have st := spread_step (h := h) (w := w) gk.2.2.1 (x := f[a]) fn fs
      have gl := nodup_sub (m := x :: cs) st.1 st.2
      refine ⟨fun σ2 H2 => ∃ (f : List Int) (a : Nat), σ2 = [some (.ref g), some (.int x), some (.ref c), some (.ref p), some (.int (a : Int)), none] ∧ Ex H H2 ∧ H2 p = some (.lst (f.map V.int)) ∧ f.Nodup ∧ (∀ o ∈ f, o ∈ x :: cs) ∧ m + a = cs.length + 2 ∧ spreadGo h w cs m f a = spread h w x cs, fun σ2 H2 z => ⟨m, by omega, z⟩, ?_⟩
      have h3 := e3 _ _ h2
      have hs3 := ex_t (e2.trans e3) hs
      have hc3 := ex_l (e2.trans e3) hc
      have it : Ev (tOp (rIxL K) (tVar 3) (tVar 4)) [some (.ref g), some (.int x), some (.ref c), some (.ref p), some (.int (a : Int)), none] H3 (.int f[a]) := by
        refine ev_ixS (i := (a : Int)) (es_of (ev_var rfl) (sq_of h3)) (ev_var rfl) (atI_nat ?_)
        rw [List.getElem?_map, hfa]
        rfl
      have b := el_beside (E := E0) (K := K) (ta := tCons (tVar 0) (tCons (tOp (rIxL K) (tVar 3) (tVar 4)) tNil)) (ea_cons (ev_var rfl) (ea_cons it ea_nil)) hs3 gk
      have l := el_lcI (K := K) (t := tAnd (tTest (tOp (rIn K false) (tVar 5) (tVar 2))) (tTest (tOp (rIn K true) (tVar 5) (tVar 3)))) (te := tVar 5) (j := 5) (vs := [5]) (fun o => decide (o ∈ cs) && !decide (o ∈ f)) V.int (es_new b) (by have := beside_len h w f[a]; omega) (fun x => rfl)
        (fun n H4 e4 hn => et_and (et_test (ev_isIn (ev_var rfl) (es_of (ev_var rfl) (ex_l e4 hc3)))) (fun _ => et_test (ev_notIn (ev_var rfl) (es_of (ev_var rfl) (sq_of (e4 _ _ h3)))))) (fun n H4 e4 hn _ => ev_var rfl)
      refine q_extL (K := K) h3 (ev_var rfl) l (by rw [lm, List.length_map]; rw [List.length_append] at gl; simp only [List.length_cons] at gl; omega) fun H4 e4 => ?_
      refine s_aug (a := (a : Int)) (b := 1) rfl ev_c fun H5 e5 => ⟨_, a + 1, ?_, ?_, e5 _ _ upd_same |>.trans ?_, st.1, st.2, by omega, hg⟩
      · show [some (V.ref g), some (V.int x), some (V.ref c), some (V.ref p), some (V.int ((a : Int) + 1)), none] = _
        rfl
      · exact (Ex.mut ((e2.trans e3).trans e4) hp).trans e5
      · rw [List.map_append]
  · have ha : ¬ a < f.length := by have := of_decide_eq_false hb; omega
    have e : spread h w x cs = f := by
      rw [← hg]
      cases m with
      | zero => rfl
      | succ m =>
        unfold spreadGo
        rw [List.getElem?_eq_none (by omega)]
    refine s_ret (ev_var rfl) fun H4 e4 => q p H4 hp ((e2.trans e3).trans e4) ?_
    rw [e]
    exact e4 _ _ (e3 _ _ h2)
/-! ### is_inner -/
def sp_is_inner (K : PySem.W.Frag) : Sp := fun vs H Q _ => ∃ g c h w x cs, vs = [.ref g, .ref c, .int x] ∧ SqT K H g [.int ((h : Nat) : Int), .int ((w : Nat) : Int)] ∧ GOk h w ∧ SqL K H c ((cs : List Int).map V.int) ∧ RetV (.bl (isInner h w cs x)) H Q
theorem ev_is_inner {K : PySem.W.Frag} {σ : L2.St} {H : Hp} {ta : TA} {E : XK} {g c : Addr} {h w : Nat} {x : Int} {cs : List Int} (ha : EvA ta σ H [.ref g, .ref c, .int x]) (hs : SqT K H g [.int (h : Int), .int (w : Int)]) (gk : GOk h w) (hc : SqL K H c (cs.map V.int)) : Ev (tCall (sp_is_inner K) [] E ta) σ H (.bl (isInner h w cs x)) := fun H1 e Q q =>
  ha H1 e _ fun H2 e2 => ⟨g, c, h, w, x, cs, rfl, ex_t (e.trans e2) hs, gk, ex_l (e.trans e2) hc, fun H3 e3 => q H3 (e2.trans e3)⟩
def t_is_inner (K : PySem.W.Frag) : TS := (tSeq (tAsg (tVar 0) (gTup K 2 (gCons (gName 3) (gCons (gName 4) gNil))))
      (tSeq (tAsg (tLc (iRng1 (tCons (tOp oMul (tVar 3) (tVar 4)) tNil)) (gName 6) (tTest (tOp (rIn K true) (tVar 6) (tVar 1))) (tVar 6) [6]) (gName 5))
      (tSeq (tFor (iList K (tCall (sp_spread K) [] E0 (tCons (tVar 0) (tCons (tVar 2) (tCons (tVar 5) tNil))))) (gName 6) (tIfS (tOr (tTest (tOp oLt (tVar 6) (tVar 4))) (tOr (tTest (tOp oGe (tVar 6) (tOp oMul (tVar 4) (tOp oSub (tVar 3) (tC (.int 1)))))) (tTest (tOp (rIn K false) (tOp oMod (tVar 6) (tVar 4)) (tTup (tCons (tC (.int 0)) (tCons (tOp oSub (tVar 4) (tC (.int 1))) tNil))))))) (tRet (tC (.bl false))) tNext))
      (tRet (tC (.bl true))))))
theorem pure_is_inner {K : PySem.W.Frag} {vs : List V} {H : Hp} {Q : VK} {E : XK} {D : Ends} (hD : D.rt = Q) (h : sp_is_inner K vs H Q E) : t_is_inner K D (start ["grid", "cells", "cell", "high", "wide", "rest", "one"] vs) H := by
  obtain ⟨g, c, h, w, x, cs, rfl, hs, gk, hc, q⟩ := h
  subst hD
  change t_is_inner K D [some (.ref g), some (.ref c), some (.int x), none, none, none, none] H
  have gb := gk
  obtain ⟨g1, g2, g3, g4⟩ := gb
  have hwl := hw_le gk
  have cast : ((h * w : Nat) : Int) = (h : Int) * w := Int.natCast_mul h w
  refine q_unp (i := 3) (j := 4) (est_of (ev_var rfl) hs) fun H1 e1 => ?_
  have hc1 := ex_l e1 hc
  have hs1 := ex_t e1 hs
  have l := el_lcR (σ := [some (.ref g), some (.ref c), some (.int x), some (.int (h : Int)), some (.int (w : Int)), none, none]) (H := H1) (t := tTest (tOp (rIn K true) (tVar 6) (tVar 1))) (te := tVar 6) (j := 6) (vs := [6]) (n := h * w) (ta := tCons (tOp oMul (tVar 3) (tVar 4)) tNil)
    (fun i => !decide ((i : Int) ∈ cs)) (fun i => V.int (i : Int)) (ea_cons (by rw [cast]; walk_at "ev") ea_nil) (by omega) (fun x => rfl) (fun i H2 e2 hi => et_test (ev_notIn (ev_var rfl) (es_of (ev_var rfl) (ex_l e2 hc1)))) (fun i H2 e2 hi _ => ev_var rfl)
  have le : (((List.range (h * w)).filter fun (i : Nat) => !decide ((i : Int) ∈ cs)).map fun (i : Nat) => V.int (i : Int)) = (restOf h w cs).map V.int := by
    unfold restOf
    rw [List.map_map]
    rfl
  rw [le] at l
  refine q_asgL (i := 5) l fun r H2 hr e2 h2 => ?_
  have rl := restOf_len h w cs
  have hs2 := ex_t e2 hs1
  have sp := el_spread (E := E0) (K := K) (σ := [some (.ref g), some (.ref c), some (.int x), some (.int (h : Int)), some (.int (w : Int)), some (.ref r), none]) (H := H2) (ta := tCons (tVar 0) (tCons (tVar 2) (tCons (tVar 5) tNil))) (ea_cons (ev_var rfl) (ea_cons (ev_var rfl) (ea_cons (ev_var rfl) ea_nil))) hs2 gk (sq_of h2) (by omega)
  have isI : isInner h w cs x = (spread h w x (restOf h w cs)).all fun o => !onEdge h w o := rfl
  generalize spread h w x (restOf h w cs) = fs at *
  refine q_forNLn (K := K) (j := 6) sp (fun p n σ' H' => ∃ y6, σ' = [some (.ref g), some (.ref c), some (.int x), some (.int (h : Int)), some (.int (w : Int)), some (.ref r), y6] ∧ Ex H2 H' ∧ H' p = some (.lst (fs.map V.int)) ∧ ∀ o ∈ fs.take n, onEdge h w o = false)
    (fun p H3 hp e3 h3 => ⟨_, rfl, e3, h3, by simp⟩) (fun p n σ' H' _ hP => by obtain ⟨_, _, _, h3, _⟩ := hP; exact sq_of h3) (fun p n v σ' H3 hv hP => ?_) (fun p σ' H3 hP => ?_)
  · obtain ⟨y6, rfl, e3, h3, hk⟩ := hP
    rw [List.getElem?_map] at hv
    obtain ⟨o, ho, rfl⟩ := Option.map_eq_some_iff.mp hv
    have hs3 := ex_t e3 hs2
    refine s_when (b := onEdge h w o) ?_ (fun hb H4 e4 => ?_) (fun hb H4 e4 => ⟨_, rfl, e3.trans e4, e4 _ _ h3, fun o' ho' => ?_⟩)
    · refine et_or (et_test (ev_op (x := .int o) (y := .int (w : Int)) (ev_var rfl) (ev_var rfl) rv_I0)) (fun _ => et_or (et_test (ev_op (x := .int o) (y := .int ((w : Int) * ((h : Int) - 1))) (ev_var rfl) (by walk_at "ev") rv_I0)) (fun _ => et_test ?_))
      exact ev_inT2 (ev_op (x := .int o) (y := .int (w : Int)) (ev_var rfl) (ev_var rfl) (rv_I (by show (0 : Int) < _; omega))) (est_new (eu_tup (by walk_at "ea") (by simp)))
    · refine s_ret ev_c fun H5 e5 => ?_
      have : isInner h w cs x = false := by
        rw [isI, List.all_eq_false]
        exact ⟨o, List.mem_of_getElem? ho, by simp [hb]⟩
      rw [this] at q
      exact q H5 ((((e1.trans e2).trans e3).trans e4).trans e5)
    · rw [take_snoc ho] at ho'
      rcases List.mem_append.mp ho' with z | z
      · exact hk o' z
      · have : o' = o := by simpa using z
        rw [this]
        exact hb
  · obtain ⟨y6, rfl, e3, h3, hk⟩ := hP
    rw [List.length_map, List.take_length] at hk
    refine s_ret ev_c fun H4 e4 => ?_
    have : isInner h w cs x = true := by
      rw [isI, List.all_eq_true]
      intro o ho
      simp [hk o ho]
    rw [this] at q
    exact q H4 (((e1.trans e2).trans e3).trans e4)
/-! ### first_inner -/
def optV : Option Nat → V
  | none => .non
  | some n => .int (n : Int)
def sp_first_inner (K : PySem.W.Frag) : Sp := fun vs H Q _ => ∃ g c h w cs, vs = [.ref g, .ref c] ∧ SqT K H g [.int ((h : Nat) : Int), .int ((w : Nat) : Int)] ∧ GOk h w ∧ SqL K H c ((cs : List Int).map V.int) ∧ RetV (optV (firstInner h w cs)) H Q
theorem ev_first_inner {K : PySem.W.Frag} {σ : L2.St} {H : Hp} {ta : TA} {E : XK} {g c : Addr} {h w : Nat} {cs : List Int} (ha : EvA ta σ H [.ref g, .ref c]) (hs : SqT K H g [.int (h : Int), .int (w : Int)]) (gk : GOk h w) (hc : SqL K H c (cs.map V.int)) : Ev (tCall (sp_first_inner K) [] E ta) σ H (optV (firstInner h w cs)) := fun H1 e Q q =>
  ha H1 e _ fun H2 e2 => ⟨g, c, h, w, cs, rfl, ex_t (e.trans e2) hs, gk, ex_l (e.trans e2) hc, fun H3 e3 => q H3 (e2.trans e3)⟩
def t_first_inner (K : PySem.W.Frag) : TS := (tSeq (tFor (iRng1 (tCons (tOp oMul (tOp (rIxT K) (tVar 0) (tC (.int 0))) (tOp (rIxT K) (tVar 0) (tC (.int 1)))) tNil)) (gName 2) (tIfS (tAnd (tTest (tOp (rIn K true) (tVar 2) (tVar 1))) (tB (tCall (sp_is_inner K) [] E0 (tCons (tVar 0) (tCons (tVar 1) (tCons (tVar 2) tNil)))))) (tRet (tVar 2)) tNext))
      (tRet (tC .non)))
theorem find_range_some {f : Nat → Bool} {n i : Nat} (hi : i < n) (hf : f i = true) (hb : ∀ j < i, f j = false) : (List.range n).find? f = some i := by
  rw [List.find?_range_eq_some]
  exact ⟨hf, by simpa using hi, fun j hj => by simp [hb j hj]⟩
theorem find_range_none {f : Nat → Bool} {n : Nat} (hb : ∀ j < n, f j = false) : (List.range n).find? f = none := by
  rw [List.find?_eq_none]
  intro x hx
  simp [hb x (List.mem_range.mp hx)]
theorem pure_first_inner {K : PySem.W.Frag} {vs : List V} {H : Hp} {Q : VK} {E : XK} {D : Ends} (hD : D.rt = Q) (h : sp_first_inner K vs H Q E) : t_first_inner K D (start ["grid", "cells", "cell"] vs) H := by
  obtain ⟨g, c, h, w, cs, rfl, hs, gk, hc, q⟩ := h
  subst hD
  change t_first_inner K D [some (.ref g), some (.ref c), none] H
  have gb := gk
  obtain ⟨g1, g2, g3, g4⟩ := gb
  have hwl := hw_le gk
  have cast : ((h * w : Nat) : Int) = (h : Int) * w := Int.natCast_mul h w
  have hm : ((h : Int) * w).toNat = h * w := by rw [← cast]; exact Int.toNat_natCast _
  refine q_forR1 (j := 2) (n := (h : Int) * w) (ea_cons (by walk_at "ev") ea_nil) ⟨by omega, by omega⟩ (fun i σ' H' => ∃ y2, σ' = [some (.ref g), some (.ref c), y2] ∧ Ex H H' ∧ ∀ j < i, (!decide ((j : Int) ∈ cs) && isInner h w cs (j : Int)) = false)
    (fun H1 e1 => ⟨_, rfl, e1, fun j hj => absurd hj (Nat.not_lt_zero j)⟩) (fun i σ' H1 hi hP => ?_) (fun σ' H1 hP => ?_)
  · obtain ⟨y2, rfl, e1, hk⟩ := hP
    have hc1 := ex_l e1 hc
    have hs1 := ex_t e1 hs
    refine s_when (b := !decide ((i : Int) ∈ cs) && isInner h w cs (i : Int)) (et_and (et_test (ev_notIn (ev_var rfl) (es_of (ev_var rfl) hc1))) (fun _ => et_B (ev_is_inner (ea_cons (ev_var rfl) (ea_cons (ev_var rfl) (ea_cons (ev_var rfl) ea_nil))) hs1 gk hc1))) (fun hb H2 e2 => ?_) (fun hb H2 e2 => ⟨_, rfl, e1.trans e2, fun j hj => ?_⟩)
    · refine s_ret (ev_var rfl) fun H3 e3 => ?_
      have : firstInner h w cs = some i := find_range_some (by omega) hb hk
      rw [this] at q
      exact q H3 ((e1.trans e2).trans e3)
    · by_cases hji : j < i
      · exact hk j hji
      · have : j = i := by omega
        rw [this]
        exact hb
  · obtain ⟨y2, rfl, e1, hk⟩ := hP
    rw [hm] at hk
    refine s_ret ev_c fun H2 e2 => ?_
    have : firstInner h w cs = none := find_range_none hk
    rw [this] at q
    exact q H2 (e1.trans e2)
/-! ### is_ring -/
def sp_is_ring (K : PySem.W.Frag) : Sp := fun vs H Q _ => ∃ g c h w cs, vs = [.ref g, .ref c] ∧ SqT K H g [.int ((h : Nat) : Int), .int ((w : Nat) : Int)] ∧ GOk h w ∧ SqL K H c ((cs : List Int).map V.int) ∧ cs ≠ [] ∧ cs.length ≤ 1000 ∧ RetV (.bl (isRing h w cs)) H Q
theorem ev_is_ring {K : PySem.W.Frag} {σ : L2.St} {H : Hp} {ta : TA} {E : XK} {g c : Addr} {h w : Nat} {cs : List Int} (ha : EvA ta σ H [.ref g, .ref c]) (hs : SqT K H g [.int (h : Int), .int (w : Int)]) (gk : GOk h w) (hc : SqL K H c (cs.map V.int)) (hn : cs ≠ []) (hl : cs.length ≤ 1000) : Ev (tCall (sp_is_ring K) [] E ta) σ H (.bl (isRing h w cs)) := fun H1 e Q q =>
  ha H1 e _ fun H2 e2 => ⟨g, c, h, w, cs, rfl, ex_t (e.trans e2) hs, gk, ex_l (e.trans e2) hc, hn, hl, fun H3 e3 => q H3 (e2.trans e3)⟩
def t_is_ring (K : PySem.W.Frag) : TS := (tSeq (tIfS (tTest (tOp oLt (tCB (rLenS K) (tCons (tCall (sp_spread K) [] E0 (tCons (tVar 0) (tCons (tOp (rIxL K) (tVar 1) (tC (.int 0))) (tCons (tVar 1) tNil)))) tNil)) (tCB (rLenS K) (tCons (tVar 1) tNil)))) (tRet (tC (.bl false))) tNext)
      (tRet (tOp rIsN (tCall (sp_first_inner K) [] E0 (tCons (tVar 0) (tCons (tVar 1) tNil))) (tC .non))))
theorem at_first {cs : List Int} (hn : cs ≠ []) : atI (cs.map V.int) 0 = some (.int (cs.headD 0)) := by
  cases cs with
  | nil => exact absurd rfl hn
  | cons a r => exact atI_nat (j := 0) rfl
theorem opt_is (o : Option Nat) : decide (optV o = V.non) = o.isNone := by
  cases o with
  | none => rfl
  | some n => exact decide_eq_false fun e => V.noConfusion e
theorem pure_is_ring {K : PySem.W.Frag} {vs : List V} {H : Hp} {Q : VK} {E : XK} {D : Ends} (hD : D.rt = Q) (h : sp_is_ring K vs H Q E) : t_is_ring K D (start ["grid", "cells"] vs) H := by
  obtain ⟨g, c, h, w, cs, rfl, hs, gk, hc, hn, hl, q⟩ := h
  subst hD
  change t_is_ring K D [some (.ref g), some (.ref c)] H
  have it : Ev (tOp (rIxL K) (tVar 1) (tC (.int 0))) [some (.ref g), some (.ref c)] H (.int (cs.headD 0)) := ev_ixS (es_of (ev_var rfl) hc) ev_c (at_first hn)
  have sp := el_spread (E := E0) (K := K) (ta := tCons (tVar 0) (tCons (tOp (rIxL K) (tVar 1) (tC (.int 0))) (tCons (tVar 1) tNil))) (ea_cons (ev_var rfl) (ea_cons it (ea_cons (ev_var rfl) ea_nil))) hs gk hc hl
  have t := et_test (ev_op (r := oLt) (ev_lenN (K := K) sp) (ev_lenS (K := K) (ta := tVar 1) (es_of (ev_var rfl) hc)) rv_I0)
  rw [List.length_map, List.length_map] at t
  refine q_when t (fun hb H1 e1 => ?_) (fun hb H1 e1 => ?_)
  · have : isRing h w cs = false := if_pos (by have := of_decide_eq_true hb; omega)
    rw [this] at q
    exact s_ret ev_c fun H2 e2 => q H2 (e1.trans e2)
  · have : isRing h w cs = (firstInner h w cs).isNone := if_neg (by have := of_decide_eq_false hb; omega)
    rw [this, ← opt_is] at q
    exact s_ret (ev_op (ev_first_inner (ea_cons (ev_var rfl) (ea_cons (ev_var rfl) ea_nil)) (ex_t e1 hs) gk (ex_l e1 hc)) ev_c rv_isN) fun H2 e2 => q H2 (e1.trans e2)

/-! ### instances -/
/-- what a class of the text has: plain gets and stores, these names not among its attributes -/
structure Cf (K : PySem.W.Frag) (c : Addr) (fs : List Str) : Prop where
  cl : Cls K c
  no : ∀ f ∈ fs, NoAttr K c f
theorem lk_self {f : Str} {v : V} {r : List (Str × V)} : List.lookup f ((f, v) :: r) = some v := List.lookup_cons_self
theorem lk_ne {f g : Str} {v : V} {r : List (Str × V)} (h : ¬ g = f) : List.lookup g ((f, v) :: r) = List.lookup g r := by
  have hb : (g == f) = false := beq_eq_false_iff_ne.mpr h
  simp only [List.lookup, hb]
theorem lk_nil {g : Str} : List.lookup g ([] : List (Str × V)) = none := rfl
theorem put_ne {f g : Str} {v u : V} (h : ¬ f = g) : putF g u [(f, v)] = [(f, v), (g, u)] := by
  show (if f = g then [(f, u)] else (f, v) :: putF g u []) = _
  rw [if_neg h]
  rfl
theorem one_other : ¬ (("one" : Str) = "other") := by decide +kernel
theorem other_one : ¬ (("other" : Str) = "one") := by decide +kernel
theorem shows_one : ¬ (("shows" : Str) = "one") := by decide +kernel
theorem shows_other : ¬ (("shows" : Str) = "other") := by decide +kernel
theorem shows_cell : ¬ (("shows" : Str) = "cell") := by decide +kernel
theorem shows_cells : ¬ (("shows" : Str) = "cells") := by decide +kernel
section
variable {K : PySem.W.Frag} {σ : L2.St} {H H' : Hp} {ta tv te : TE} {D : Ends} {tz : TS} {p c dx : Addr} {fs : List (Str × V)} {f : Str} {ns : List Str} {v : V} {xs : List V}
theorem ev_fld (ha : Ev ta σ H (.ref p)) (hp : H p = some (.ins c dx fs)) (k : Cf K c ns) (hf : f ∈ ns) (hl : fs.lookup f = some v) : Ev (tFld K ta f) σ H v := fun H1 e Q q =>
  ha H1 e _ fun H2 e2 => ⟨p, c, dx, fs, v, rfl, e2 _ _ (e _ _ hp), k.cl, k.no f hf, hl, q H2 e2⟩
theorem s_fld (hv : Ev tv σ H v) (ha : Ev ta σ H (.ref p)) (hp : H p = some (.ins c dx fs)) (k : Cf K c ns) (hf : f ∈ ns) (hl : fs.length < 1000) (h : ∀ H1, Ex H H1 → D.nx σ (upd H1 p (.ins c dx (putF f v fs)))) : sFld K ta tv f D σ H :=
  hv H (Ex.refl H) _ fun H1 e1 => ha H1 e1 _ fun H2 e2 => ⟨p, c, dx, fs, rfl, e2 _ _ (e1 _ _ hp), k.cl, k.no f hf, hl, h H2 (e1.trans e2)⟩
theorem q_fld (hv : Ev tv σ H v) (ha : Ev ta σ H (.ref p)) (hp : H p = some (.ins c dx fs)) (k : Cf K c ns) (hf : f ∈ ns) (hl : fs.length < 1000) (h : ∀ H1, Ex H H1 → tz D σ (upd H1 p (.ins c dx (putF f v fs)))) : tSeq (sFld K ta tv f) tz D σ H :=
  s_fld (D := { D with nx := tz D }) hv ha hp k hf hl h
theorem s_fldL (hv : EvL tv σ H xs) (ha : Ev ta σ H (.ref p)) (hp : H p = some (.ins c dx fs)) (k : Cf K c ns) (hf : f ∈ ns) (hl : fs.length < 1000) (h : ∀ l H1, H l = none → Ex H H1 → H1 l = some (.lst xs) → D.nx σ (upd H1 p (.ins c dx (putF f (.ref l) fs)))) : sFld K ta tv f D σ H :=
  hv H (Ex.refl H) _ fun l H1 hl1 e1 h1 => ha H1 e1 _ fun H2 e2 => ⟨p, c, dx, fs, rfl, e2 _ _ (e1 _ _ hp), k.cl, k.no f hf, hl, h l H2 hl1 (e1.trans e2) (e2 _ _ h1)⟩
theorem q_fldL (hv : EvL tv σ H xs) (ha : Ev ta σ H (.ref p)) (hp : H p = some (.ins c dx fs)) (k : Cf K c ns) (hf : f ∈ ns) (hl : fs.length < 1000) (h : ∀ l H1, H l = none → Ex H H1 → H1 l = some (.lst xs) → tz D σ (upd H1 p (.ins c dx (putF f (.ref l) fs)))) : tSeq (sFld K ta tv f) tz D σ H :=
  s_fldL (D := { D with nx := tz D }) hv ha hp k hf hl h
end
/-- a new instance of the class c with these fields -/
def NewI (c : Addr) (fs : List (Str × V)) (H1 : Hp) (v : V) (H2 : Hp) : Prop := ∃ p dx, v = .ref p ∧ H1 p = none ∧ H2 p = some (.ins c dx fs)
theorem NewI.back {c : Addr} {fs : List (Str × V)} {H0 H1 H2 : Hp} {v : V} (e : Ex H0 H1) (h : NewI c fs H1 v H2) : NewI c fs H0 v H2 := by
  obtain ⟨p, dx, rfl, hp, h2⟩ := h
  exact ⟨p, dx, rfl, fresh_back e hp, h2⟩
theorem NewI.on {c : Addr} {fs : List (Str × V)} {H1 H2 H3 : Hp} {v : V} (e : Ex H2 H3) (h : NewI c fs H1 v H2) : NewI c fs H1 v H3 := by
  obtain ⟨p, dx, rfl, hp, h2⟩ := h
  exact ⟨p, dx, rfl, hp, e _ _ h2⟩
theorem ep_bare {c : Addr} {σ : L2.St} {H : Hp} : EvP (tBare c) σ H (NewI c []) := fun H1 e Q q x dx hx hdx ne =>
  q _ _ (fun a o ha => by rw [upd_ne (ne_of_none ha hx), upd_ne (ne_of_none ha hdx)]; exact ha) ⟨x, dx, rfl, hx, upd_same⟩
/-- all but p stays -/
def ButP (p : Addr) (H H2 : Hp) : Prop := ∀ a o, a ≠ p → H a = some o → H2 a = some o
theorem made_ex {H H2 : Hp} {x dx c : Addr} (hx : H x = none) (hdx : H dx = none) (h : ButP x (upd (upd H dx (.own x)) x (.ins c dx [])) H2) : Ex H H2 := fun a o ha => by
  have n1 := ne_of_none ha hx
  refine h a o n1 ?_
  rw [upd_ne n1, upd_ne (ne_of_none ha hdx)]
  exact ha
/-! ### Ring -/
def sp_Ring_shows (K : PySem.W.Frag) : Sp := fun vs H Q _ => ∃ p g c h w cs, vs = [.ref p, .ref g, .ref c] ∧ SqT K H g [.int ((h : Nat) : Int), .int ((w : Nat) : Int)] ∧ GOk h w ∧ SqL K H c ((cs : List Int).map V.int) ∧ cs ≠ [] ∧ cs.length ≤ 1000 ∧ RetV (.bl (isRing h w cs)) H Q
def t_Ring_shows (K : PySem.W.Frag) : TS := (tRet (tCall (sp_is_ring K) [] E0 (tCons (tVar 1) (tCons (tVar 2) tNil))))
theorem pure_Ring_shows {K : PySem.W.Frag} {vs : List V} {H : Hp} {Q : VK} {E : XK} {D : Ends} (hD : D.rt = Q) (h : sp_Ring_shows K vs H Q E) : t_Ring_shows K D (start ["self", "grid", "cells"] vs) H := by
  obtain ⟨p, g, c, h, w, cs, rfl, hs, gk, hc, hn, hl, q⟩ := h
  subst hD
  change t_Ring_shows K D [some (.ref p), some (.ref g), some (.ref c)] H
  exact s_ret (ev_is_ring (ea_cons (ev_var rfl) (ea_cons (ev_var rfl) ea_nil)) hs gk hc hn hl) fun H1 e1 => q H1 e1
/-! ### Split -/
def flds2 (u v : V) : List (Str × V) := [("one", u), ("other", v)]
theorem flds2_one {u v : V} : (flds2 u v).lookup ("one" : Str) = some u := lk_self
theorem flds2_other {u v : V} : (flds2 u v).lookup ("other" : Str) = some v := (lk_ne other_one).trans lk_self
theorem flds2_shows {u v : V} : (flds2 u v).lookup ("shows" : Str) = none := (lk_ne shows_one).trans (lk_ne shows_other)
def sp_Split_init (K : PySem.W.Frag) (C : Ad) : Sp := fun vs H Q _ => ∃ p dx u v, vs = [.ref p, u, v] ∧ H p = some (.ins C.cSplit dx []) ∧ ∀ H2, ButP p H H2 → H2 p = some (.ins C.cSplit dx (flds2 u v)) → Q .non H2
def t_Split_init (K : PySem.W.Frag) : TS := (tSeq (sFld K (tVar 0) (tVar 1) "one")
      (sFld K (tVar 0) (tVar 2) "other"))
theorem pure_Split_init {K : PySem.W.Frag} {C : Ad} {vs : List V} {H : Hp} {Q : VK} {E : XK} {D : Ends} (hD : D.nx = fun _ H' => Q .non H') (cf_Split : Cf K C.cSplit ["one", "other"]) (h : sp_Split_init K C vs H Q E) : t_Split_init K D (start ["self", "one", "other"] vs) H := by
  obtain ⟨p, dx, u, v, rfl, hp, q⟩ := h
  change t_Split_init K D [some (.ref p), some u, some v] H
  refine q_fld (ev_var rfl) (ev_var rfl) hp cf_Split (by simp) (by simp) fun H1 e1 => ?_
  refine s_fld (ev_var rfl) (ev_var rfl) upd_same cf_Split (by simp) (by simp [putF]) fun H2 e2 => ?_
  rw [hD]
  refine q _ (fun a o ne ha => ?_) ?_
  · rw [upd_ne ne]
    refine e2 _ _ ?_
    rw [upd_ne ne]
    exact e1 _ _ ha
  · rw [upd_same]
    exact congrArg (fun z => some (HO.ins C.cSplit dx z)) (put_ne one_other)
theorem ep_Split {K : PySem.W.Frag} {C : Ad} {σ : L2.St} {H : Hp} {ta : TA} {E : XK} {u v : V} (ha : EvA ta σ H [u, v]) : EvP (tMake C.cSplit (sp_Split_init K C) [] E ta) σ H (NewI C.cSplit (flds2 u v)) := fun H1 e Q q =>
  ha H1 e _ fun H2 e2 x dx hx hdx ne => ⟨x, dx, u, v, rfl, upd_same, fun H3 b h3 => ⟨rfl, q _ H3 (e2.trans (made_ex hx hdx b)) ⟨x, dx, rfl, fresh_back e2 hx, h3⟩⟩⟩
def splitShows (h w : Nat) (cs : List Int) (x y : Int) : Bool := (decide (x ∈ cs) && decide (y ∈ cs)) && !decide (y ∈ spread h w x cs)
def sp_Split_shows (K : PySem.W.Frag) (C : Ad) : Sp := fun vs H Q _ => ∃ p g c h w cs dx x y, vs = [.ref p, .ref g, .ref c] ∧ H p = some (.ins C.cSplit dx (flds2 (.int x) (.int y))) ∧ SqT K H g [.int ((h : Nat) : Int), .int ((w : Nat) : Int)] ∧ GOk h w ∧ SqL K H c ((cs : List Int).map V.int) ∧ cs.length ≤ 1000 ∧ RetV (.bl (splitShows h w cs x y)) H Q
def t_Split_shows (K : PySem.W.Frag) : TS := (tSeq (tIfS (tOr (tTest (tOp (rIn K true) (tFld K (tVar 0) "one") (tVar 2))) (tTest (tOp (rIn K true) (tFld K (tVar 0) "other") (tVar 2)))) (tRet (tC (.bl false))) tNext)
      (tRet (tOp (rIn K true) (tFld K (tVar 0) "other") (tCall (sp_spread K) [] E0 (tCons (tVar 1) (tCons (tFld K (tVar 0) "one") (tCons (tVar 2) tNil)))))))
theorem pure_Split_shows {K : PySem.W.Frag} {C : Ad} {vs : List V} {H : Hp} {Q : VK} {E : XK} {D : Ends} (hD : D.rt = Q) (cf_Split : Cf K C.cSplit ["one", "other"]) (h : sp_Split_shows K C vs H Q E) : t_Split_shows K D (start ["self", "grid", "cells"] vs) H := by
  obtain ⟨p, g, c, h, w, cs, dx, x, y, rfl, hp, hs, gk, hc, hl, q⟩ := h
  subst hD
  change t_Split_shows K D [some (.ref p), some (.ref g), some (.ref c)] H
  have f1 : ∀ {H1}, Ex H H1 → Ev (tFld K (tVar 0) "one") [some (.ref p), some (.ref g), some (.ref c)] H1 (.int x) := fun e => ev_fld (ev_var rfl) (e _ _ hp) cf_Split (by simp) flds2_one
  have f2 : ∀ {H1}, Ex H H1 → Ev (tFld K (tVar 0) "other") [some (.ref p), some (.ref g), some (.ref c)] H1 (.int y) := fun e => ev_fld (ev_var rfl) (e _ _ hp) cf_Split (by simp) flds2_other
  refine q_when (et_or (et_test (ev_notIn (f1 (Ex.refl H)) (es_of (ev_var rfl) hc))) (fun _ => et_test (ev_notIn (f2 (Ex.refl H)) (es_of (ev_var rfl) hc)))) (fun hb H1 e1 => ?_) (fun hb H1 e1 => ?_)
  · have : splitShows h w cs x y = false := by
      unfold splitShows
      rcases Bool.or_eq_true _ _ ▸ hb with z | z
      · have : decide (x ∈ cs) = false := by simpa using z
        rw [this]; rfl
      · have : decide (y ∈ cs) = false := by simpa using z
        rw [this, Bool.and_false]; rfl
    rw [this] at q
    exact s_ret ev_c fun H2 e2 => q H2 (e1.trans e2)
  · have : splitShows h w cs x y = !decide (y ∈ spread h w x cs) := by
      unfold splitShows
      have hb := (Bool.or_eq_false_iff.mp hb)
      have z1 : decide (x ∈ cs) = true := by simpa using hb.1
      have z2 : decide (y ∈ cs) = true := by simpa using hb.2
      rw [z1, z2]; rfl
    rw [this] at q
    have sp := el_spread (E := E0) (K := K) (x := x) (ta := tCons (tVar 1) (tCons (tFld K (tVar 0) "one") (tCons (tVar 2) tNil))) (ea_cons (ev_var rfl) (ea_cons (f1 e1) (ea_cons (ev_var rfl) ea_nil))) (ex_t e1 hs) gk (ex_l e1 hc) hl
    exact s_ret (ev_notIn (f2 e1) (es_new sp)) fun H2 e2 => q H2 (e1.trans e2)
/-! ### Hole -/
def flds1 (u : V) : List (Str × V) := [("cell", u)]
theorem flds1_cell {u : V} : (flds1 u).lookup ("cell" : Str) = some u := lk_self
theorem flds1_shows {u : V} : (flds1 u).lookup ("shows" : Str) = none := lk_ne shows_cell
def sp_Hole_init (K : PySem.W.Frag) (C : Ad) : Sp := fun vs H Q _ => ∃ p dx u, vs = [.ref p, u] ∧ H p = some (.ins C.cHole dx []) ∧ ∀ H2, ButP p H H2 → H2 p = some (.ins C.cHole dx (flds1 u)) → Q .non H2
def t_Hole_init (K : PySem.W.Frag) : TS := (sFld K (tVar 0) (tVar 1) "cell")
theorem pure_Hole_init {K : PySem.W.Frag} {C : Ad} {vs : List V} {H : Hp} {Q : VK} {E : XK} {D : Ends} (hD : D.nx = fun _ H' => Q .non H') (cf_Hole : Cf K C.cHole ["cell"]) (h : sp_Hole_init K C vs H Q E) : t_Hole_init K D (start ["self", "cell"] vs) H := by
  obtain ⟨p, dx, u, rfl, hp, q⟩ := h
  change t_Hole_init K D [some (.ref p), some u] H
  refine s_fld (ev_var rfl) (ev_var rfl) hp cf_Hole (by simp) (by simp) fun H1 e1 => ?_
  rw [hD]
  refine q _ (fun a o ne ha => ?_) ?_
  · rw [upd_ne ne]
    exact e1 _ _ ha
  · rw [upd_same]
    rfl
theorem ep_Hole {K : PySem.W.Frag} {C : Ad} {σ : L2.St} {H : Hp} {ta : TA} {E : XK} {u : V} (ha : EvA ta σ H [u]) : EvP (tMake C.cHole (sp_Hole_init K C) [] E ta) σ H (NewI C.cHole (flds1 u)) := fun H1 e Q q =>
  ha H1 e _ fun H2 e2 x dx hx hdx ne => ⟨x, dx, u, rfl, upd_same, fun H3 b h3 => ⟨rfl, q _ H3 (e2.trans (made_ex hx hdx b)) ⟨x, dx, rfl, fresh_back e2 hx, h3⟩⟩⟩
def holeShows (h w : Nat) (cs : List Int) (x : Int) : Bool := (!decide (x ∈ cs) && (decide (0 ≤ x) && decide (x < (h : Int) * w))) && isInner h w cs x
def sp_Hole_shows (K : PySem.W.Frag) (C : Ad) : Sp := fun vs H Q _ => ∃ p g c h w cs dx x, vs = [.ref p, .ref g, .ref c] ∧ H p = some (.ins C.cHole dx (flds1 (.int x))) ∧ SqT K H g [.int ((h : Nat) : Int), .int ((w : Nat) : Int)] ∧ GOk h w ∧ SqL K H c ((cs : List Int).map V.int) ∧ RetV (.bl (holeShows h w cs x)) H Q
def t_Hole_shows (K : PySem.W.Frag) : TS := (tSeq (tIfS (tOr (tTest (tOp (rIn K false) (tFld K (tVar 0) "cell") (tVar 2))) (tNot (tTest (tChain oLe oLt (tC (.int 0)) (tFld K (tVar 0) "cell") (tOp oMul (tOp (rIxT K) (tVar 1) (tC (.int 0))) (tOp (rIxT K) (tVar 1) (tC (.int 1)))))))) (tRet (tC (.bl false))) tNext)
      (tRet (tCall (sp_is_inner K) [] E0 (tCons (tVar 1) (tCons (tVar 2) (tCons (tFld K (tVar 0) "cell") tNil))))))
theorem pure_Hole_shows {K : PySem.W.Frag} {C : Ad} {vs : List V} {H : Hp} {Q : VK} {E : XK} {D : Ends} (hD : D.rt = Q) (cf_Hole : Cf K C.cHole ["cell"]) (h : sp_Hole_shows K C vs H Q E) : t_Hole_shows K D (start ["self", "grid", "cells"] vs) H := by
  obtain ⟨p, g, c, h, w, cs, dx, x, rfl, hp, hs, gk, hc, q⟩ := h
  subst hD
  change t_Hole_shows K D [some (.ref p), some (.ref g), some (.ref c)] H
  have gb := gk
  obtain ⟨g1, g2, g3, g4⟩ := gb
  have f1 : ∀ {H1}, Ex H H1 → Ev (tFld K (tVar 0) "cell") [some (.ref p), some (.ref g), some (.ref c)] H1 (.int x) := fun e => ev_fld (ev_var rfl) (e _ _ hp) cf_Hole (by simp) flds1_cell
  have hm : Ev (tOp oMul (tOp (rIxT K) (tVar 1) (tC (.int 0))) (tOp (rIxT K) (tVar 1) (tC (.int 1)))) [some (.ref p), some (.ref g), some (.ref c)] H (.int ((h : Int) * w)) := by walk_at "ev"
  refine q_when (et_or (et_test (ev_isIn (f1 (Ex.refl H)) (es_of (ev_var rfl) hc))) (fun _ => et_not (et_test (ev_chain (x := .int 0) ev_c (f1 (Ex.refl H)) rv_I0 (fun _ => hm) (fun _ => rv_I0))))) (fun hb H1 e1 => ?_) (fun hb H1 e1 => ?_)
  · have : holeShows h w cs x = false := by
      unfold holeShows
      rcases Bool.or_eq_true _ _ ▸ hb with z | z
      · rw [z]; rfl
      · rw [Bool.not_eq_true'] at z
        rw [z, Bool.and_false]; rfl
    rw [this] at q
    exact s_ret ev_c fun H2 e2 => q H2 (e1.trans e2)
  · have : holeShows h w cs x = isInner h w cs x := by
      unfold holeShows
      have hb := (Bool.or_eq_false_iff.mp hb)
      rw [hb.1, show (decide (0 ≤ x) && decide (x < (h : Int) * w)) = true by simpa using hb.2]; rfl
    rw [this] at q
    exact s_ret (ev_is_inner (ea_cons (ev_var rfl) (ea_cons (ev_var rfl) (ea_cons (f1 e1) ea_nil))) (ex_t e1 hs) gk (ex_l e1 hc)) fun H2 e2 => q H2 (e1.trans e2)

/-! ### lists of lists by addresses and rows -/
def toV (b : Addr × List Int) : V := .ref b.1
theorem paired_bs {F : Addr → List V → Prop} : ∀ {ps : List Addr} {nss : List (List Int)}, Paired F ps (ints2 nss) → ∃ bs : List (Addr × List Int), ps = bs.map (·.1) ∧ nss = bs.map (·.2) ∧ ∀ b ∈ bs, F b.1 (b.2.map V.int)
  | [], [], .nil => ⟨[], rfl, rfl, fun b hb => nomatch hb⟩
  | p :: ps, ns :: nss, .cons h hs => by
    obtain ⟨bs, rfl, rfl, hb⟩ := paired_bs hs
    exact ⟨(p, ns) :: bs, rfl, rfl, fun b m => by
      rcases List.mem_cons.mp m with rfl | m
      · exact h
      · exact hb b m⟩
theorem bs_paired {F : Addr → List V → Prop} : ∀ {bs : List (Addr × List Int)}, (∀ b ∈ bs, F b.1 (b.2.map V.int)) → Paired F (bs.map (·.1)) (ints2 (bs.map (·.2)))
  | [], _ => .nil
  | b :: bs, h => .cons (h b List.mem_cons_self) (bs_paired fun c m => h c (List.mem_cons_of_mem _ m))
theorem NewLL.bs {H1 H2 : Hp} {v : V} {nss : List (List Int)} (h : NewLL H1 v H2 (ints2 nss)) : ∃ p, ∃ bs : List (Addr × List Int), v = .ref p ∧ H1 p = none ∧ H2 p = some (.lst (bs.map toV)) ∧ nss = bs.map (·.2) ∧ ∀ b ∈ bs, H1 b.1 = none ∧ H2 b.1 = some (.lst (b.2.map V.int)) := by
  obtain ⟨p, ps, rfl, hp, h2, hr⟩ := h
  obtain ⟨bs, rfl, rfl, hb⟩ := paired_bs hr
  exact ⟨p, bs, rfl, hp, by rw [List.map_map] at h2; exact h2, rfl, hb⟩
theorem NewLL.of {H1 H2 : Hp} {p : Addr} {bs : List (Addr × List Int)} (hp : H1 p = none) (h2 : H2 p = some (.lst (bs.map toV))) (hb : ∀ b ∈ bs, H1 b.1 = none ∧ H2 b.1 = some (.lst (b.2.map V.int))) : NewLL H1 (.ref p) H2 (ints2 (bs.map (·.2))) :=
  ⟨p, bs.map (·.1), rfl, hp, by rw [List.map_map]; exact h2, bs_paired (F := fun q xs => H1 q = none ∧ H2 q = some (.lst xs)) hb⟩
/-- rows of ints at an address, to be read -/
def RowsAt (K : PySem.W.Frag) (H : Hp) (a : Addr) (nss : List (List Int)) : Prop := ∃ rs : List Addr, SqL K H a (rs.map V.ref) ∧ Paired (fun (r : Addr) (ns : List Int) => SqL K H r (ns.map V.int)) rs nss
theorem RowsAt.mono {K : PySem.W.Frag} {H H' : Hp} {a : Addr} {nss : List (List Int)} (e : Ex H H') (h : RowsAt K H a nss) : RowsAt K H' a nss := by
  obtain ⟨rs, h1, h2⟩ := h
  exact ⟨rs, ex_l e h1, Paired.mapP h2 fun r ns z => ex_l e z⟩
theorem dpAll_rowsAt {K : PySem.W.Frag} {H : Hp} : ∀ {rs : List Addr} {nss : List (List Int)}, Paired (fun (r : Addr) (ns : List Int) => SqL K H r (ns.map V.int)) rs nss → DpAll K H (rs.map V.ref) (nss.map dI)
  | [], [], .nil => .nil
  | _ :: _, _ :: _, .cons h hs => .cons (dp_ints h) (dpAll_rowsAt hs)
theorem RowsAt.dp {K : PySem.W.Frag} {H : Hp} {a : Addr} {nss : List (List Int)} (h : RowsAt K H a nss) : Dp K H (.ref a) (dII nss) := by
  obtain ⟨rs, h1, h2⟩ := h
  exact .lst h1 (dpAll_rowsAt h2)
section
variable {K : PySem.W.Frag} {σ : L2.St} {H H' : Hp} {ta tb tc te tl : TE} {t : TT} {D : Ends} {tu tz : TS}
/-- [x for x in rows if t], rows new lists of ints -/
theorem ep_lcRows {j : Nat} {vs : List Nat} {nss : List (List Int)} (f : List Int → Bool) (h : EvP tl σ H (fun H1 v H2 => NewLL H1 v H2 (ints2 nss))) (hz : nss.length ≤ 40000) (hw : ∀ x, wipe ((wipe σ vs).set j (some x)) vs = wipe σ vs) (hj : ∀ x : V, ((wipe σ vs).set j (some x))[j]? = some (some x))
    (ht : ∀ (ns : List Int) q H1, Ex H H1 → ns ∈ nss → H1 q = some (.lst (ns.map V.int)) → EvT t ((wipe σ vs).set j (some (.ref q))) H1 (f ns)) :
    EvP (tLc (iList K tl) (gName j) t (tVar j) vs) σ H (fun H1 v H2 => NewLL H1 v H2 (ints2 (nss.filter f))) := fun H0 e Q q => h H0 e _ fun v H1 e1 hv => by
  obtain ⟨p, bs, rfl, hp, h1, rfl, hb⟩ := hv.bs
  rw [List.length_map] at hz
  refine ⟨p, rfl, ⟨_, sq_of h1⟩, fun Dl hD => lc_list (xs := bs.map toV) (fun n H' => H1 Dl = none ∧ Ex H1 H' ∧ H' Dl = some (.lst (((bs.take n).filter fun b => f b.2).map toV))) ⟨hD, Ex.new hD, upd_same⟩ (fun i H' _ p => sq_of (p.2.1 _ _ h1)) (fun i x H' hi p => ?_) (fun H' p => ?_)⟩
  · rw [List.getElem?_map] at hi
    obtain ⟨b, hbi, rfl⟩ := Option.map_eq_some_iff.mp hi
    have hm : b ∈ bs := List.mem_of_getElem? hbi
    obtain ⟨p1, p2, p3⟩ := p
    refine ⟨hw _, ht b.2 b.1 H1 (e.trans e1) (List.mem_map.mpr ⟨b, hm, rfl⟩) (hb b hm).2 H' p2 _ fun H3 e3 => ?_⟩
    have e2 : ((bs.take (i + 1)).filter fun b => f b.2).map toV = ((bs.take i).filter fun b => f b.2).map toV ++ if f b.2 = true then [toV b] else [] := by
      rw [take_snoc hbi, List.filter_append, List.map_append]
      congr 1
      cases hf : f b.2 <;> simp [hf]
    have hlen : (((bs.take i).filter fun b => f b.2).map toV).length < 100000 := by
      rw [List.length_map]
      have h1 := List.length_filter_le (fun b : Addr × List Int => f b.2) (bs.take i)
      have h2 : (bs.take i).length ≤ bs.length := by rw [List.length_take]; omega
      omega
    rw [e2]
    cases hf : f b.2 with
    | true =>
      rw [if_pos rfl, if_pos rfl]
      exact ⟨toV b, hj _, _, e3 _ _ p3, sz_lt hlen, p1, Ex.mut (p2.trans e3) p1, upd_same⟩
    | false =>
      rw [if_neg (by decide), if_neg (by decide), List.append_nil]
      exact ⟨p1, p2.trans e3, e3 _ _ p3⟩
  · rw [List.length_map, List.take_length] at p
    obtain ⟨p1, p2, p3⟩ := p
    refine q _ H' (e1.trans p2) ?_
    have hE : (bs.map (·.2)).filter f = (bs.filter fun b => f b.2).map (·.2) := by
      rw [List.filter_map]
      rfl
    rw [hE]
    exact NewLL.of (fresh_back e1 p1) p3 fun b hm => by
      have hm := (List.mem_filter.mp hm).1
      exact ⟨(hb b hm).1, p2 _ _ (hb b hm).2⟩
/-- for x, y in zip(xs, ys) of one length -/
theorem s_forZ {a b : Addr} {xs ys : List V} {i j : Nat} (ha : Ev ta σ H (.ref a)) (hb : Ev tb σ H (.ref b)) (hx : SqL K H a xs) (hy : SqL K H b ys) (hl : xs.length = ys.length) (Pv : Nat → L2.St → Hp → Prop) (h0 : ∀ H1, Ex H H1 → Pv 0 σ H1) (hq : ∀ n σ' H', Pv n σ' H' → Ex H H')
    (hs : ∀ n x y σ' H' T, xs[n]? = some x → ys[n]? = some y → Pv n σ' H' → H' T = none → tu { D with nx := Pv (n + 1), ct := Pv (n + 1), bk := D.nx } ((σ'.set i (some x)).set j (some y)) (upd H' T (.tup [x, y]))) (hd : ∀ σ' H', Pv xs.length σ' H' → D.nx σ' H') :
    tFor (iZip K (tCons ta (tCons tb tNil))) (gTup K 2 (gCons (gName i) (gCons (gName j) gNil))) tu D σ H :=
  ha H (Ex.refl H) _ fun H1 e1 => hb H1 e1 _ fun H2 e2 => ⟨a, b, xs, ys, rfl, ex_l (e1.trans e2) hx, ex_l (e1.trans e2) hy, RZ.for_zipL hl Pv (h0 H2 (e1.trans e2)) (fun n σ' H' p => ⟨ex_l (hq n σ' H' p) hx, ex_l (hq n σ' H' p) hy⟩)
    (fun n x y T σ' H' gx gy p hT => ⟨T, [x, y], rfl, st_of upd_same, rfl, x, [y], rfl, y, [], rfl, rfl, hs n x y σ' H' T gx gy p hT⟩) hd⟩
theorem q_forZ {a b : Addr} {xs ys : List V} {i j : Nat} (ha : Ev ta σ H (.ref a)) (hb : Ev tb σ H (.ref b)) (hx : SqL K H a xs) (hy : SqL K H b ys) (hl : xs.length = ys.length) (Pv : Nat → L2.St → Hp → Prop) (h0 : ∀ H1, Ex H H1 → Pv 0 σ H1) (hq : ∀ n σ' H', Pv n σ' H' → Ex H H')
    (hs : ∀ n x y σ' H' T, xs[n]? = some x → ys[n]? = some y → Pv n σ' H' → H' T = none → tu { D with nx := Pv (n + 1), ct := Pv (n + 1), bk := tz D } ((σ'.set i (some x)).set j (some y)) (upd H' T (.tup [x, y]))) (hd : ∀ σ' H', Pv xs.length σ' H' → tz D σ' H') :
    tSeq (tFor (iZip K (tCons ta (tCons tb tNil))) (gTup K 2 (gCons (gName i) (gCons (gName j) gNil))) tu) tz D σ H := s_forZ (D := { D with nx := tz D }) ha hb hx hy hl Pv h0 hq hs hd
/-- sorted(rows) -/
theorem ep_sortedRows {bs : List (Addr × List Int)} {a : Addr} (ha : Ev ta σ H (.ref a)) (h : SqL K H a (bs.map toV)) (hb : ∀ b ∈ bs, SqL K H b.1 (b.2.map V.int)) :
    EvP (tCB (rSortV dI K) (tCons ta tNil)) σ H (fun H1 v H2 => ∃ p, v = .ref p ∧ H1 p = none ∧ H2 p = some (.lst ((bs.mergeSort fun p q => decide (p.2 ≤ q.2)).map toV))) := fun H1 e Q q => ha H1 e _ fun H2 e2 => by
  have e12 := e.trans e2
  refine ⟨a, bs.map fun b => (toV b, b.2), rfl, ?_, fun c hc => ?_, ?_, ?_, fun c hc => ?_, fun p hp => ?_⟩
  · rw [List.map_map]
    exact ex_l e12 h
  · obtain ⟨b, hm, rfl⟩ := List.mem_map.mp hc
    exact dp_ints (ex_l e12 (hb b hm))
  · exact PySem.W.AllAlike.of (enc := fun b : V × List Int => dI b.2) fun b b' => by
      show PySem.W.alike (.list _) (.list _) = true
      rw [PySem.W.alike]
      exact PySem.W.alike_ints _ _
  · exact PySem.W.Sortable.others (enc := fun b : V × List Int => dI b.2) fun b => ⟨fun z => PyData.noConfusion z, fun xs z => PyData.noConfusion z⟩
  · show (dI c.2).depth ≤ 40
    unfold dI
    rw [PyData.depth]
    have := depth_ints c.2
    omega
  · have e3 : ((bs.map fun b => (toV b, b.2)).mergeSort (PySem.W.dataLe false fun b => dI b.2)).map (·.1) = (bs.mergeSort fun p q => decide (p.2 ≤ q.2)).map toV := by
      have d := PySem.W.dataLe_rows (β := V × List Int) (fun b => b.2)
      have d2 : (PySem.W.dataLe false fun b : V × List Int => dI b.2) = fun p q => decide (p.2 ≤ q.2) := d
      rw [d2, ← List.map_mergeSort (r := fun p q : Addr × List Int => decide (p.2 ≤ q.2)) (f := fun b : Addr × List Int => (toV b, b.2)) (fun _ _ _ _ => rfl), List.map_map]
      rfl
    rw [e3]
    exact q _ _ (e2.trans (Ex.new hp)) ⟨p, rfl, fresh_back e2 hp, upd_same⟩
end
/-! ### all_rings -/
def sp_all_rings (K : PySem.W.Frag) : Sp := fun vs H Q _ => ∃ g h w, vs = [.ref g] ∧ SqT K H g [.int ((h : Nat) : Int), .int ((w : Nat) : Int)] ∧ GOk h w ∧ h * w ≤ 9 ∧ RetP (fun H1 v H2 => NewLL H1 v H2 (ints2 (allRings h w))) H Q
theorem ep_all_rings {K : PySem.W.Frag} {σ : L2.St} {H : Hp} {ta : TE} {E : XK} {h w : Nat} (ha : EvST K ta σ H [.int (h : Int), .int (w : Int)]) (gk : GOk h w) (hm : h * w ≤ 9) : EvP (tCall (sp_all_rings K) [] E (tCons ta tNil)) σ H (fun H1 v H2 => NewLL H1 v H2 (ints2 (allRings h w))) := fun H1 e Q q =>
  ha H1 e _ fun g H2 e2 hg => ⟨g, h, w, rfl, hg, gk, hm, fun v H3 e3 z => q v H3 (e2.trans e3) (z.back e2)⟩
def t_all_rings (K : PySem.W.Frag) : TS := (tSeq (tPar 1 2 (tCons (tOp oMul (tOp (rIxT K) (tVar 0) (tC (.int 0))) (tOp (rIxT K) (tVar 0) (tC (.int 1)))) (tCons (tLst tNil) tNil)))
      (tSeq (tFor (iRng2 (tCons (tC (.int 1)) (tCons (tOp oShl (tC (.int 1)) (tVar 1)) tNil))) (gName 3) (tSeq (tAsg (tLc (iRng1 (tCons (tVar 1) tNil)) (gName 5) (tTest (tOp rEq (tOp oAnd (tOp oShr (tVar 3) (tVar 5)) (tC (.int 1))) (tC (.int 1)))) (tVar 5) [5]) (gName 4))
      (tIfS (tB (tCall (sp_is_ring K) [] E0 (tCons (tVar 0) (tCons (tVar 4) tNil)))) (tDrop (tBM K "list" rAppend (tVar 2) (tCons (tVar 4) tNil))) tNext)))
      (tRet (tCB (rSortV dI K) (tCons (tVar 2) tNil)))))
theorem pure_all_rings {K : PySem.W.Frag} {vs : List V} {H : Hp} {Q : VK} {E : XK} {D : Ends} (hD : D.rt = Q) (h : sp_all_rings K vs H Q E) : t_all_rings K D (start ["grid", "many", "found", "number", "cells", "cell"] vs) H := by
  obtain ⟨g, h, w, rfl, hs, gk, hm, q⟩ := h
  subst hD
  change t_all_rings K D [some (.ref g), none, none, none, none, none] H
  have gb := gk
  obtain ⟨g1, g2, g3, g4⟩ := gb
  have hwl := hw_le gk
  have cast : ((h * w : Nat) : Int) = (h : Int) * w := Int.natCast_mul h w
  have p9 := pow_le9 hm
  have p1 : 1 ≤ 2 ^ (h * w) := Nat.one_le_two_pow
  refine q_parL (i := 1) (j := 2) (x := .int ((h : Int) * w)) (xs := []) (by walk_at "ev") (el_lst ea_nil (by simp)) fun p H1 hp e1 h1 => ?_
  have shl : ((1 : Int) * 2 ^ ((h : Int) * w).toNat) = ((2 ^ (h * w) : Nat) : Int) := by
    rw [Int.one_mul, ← cast, Int.toNat_natCast]
    exact (Int.natCast_pow 2 (h * w)).symm
  refine q_forR2 (j := 3) (lo := 1) (n := ((2 ^ (h * w) : Nat) : Int)) (ea_cons ev_c (ea_cons (by rw [← shl]; exact ev_op (ev_c (v := .int 1)) (ev_var rfl) (rv_I ⟨by omega, by omega, by decide⟩)) ea_nil)) ⟨by decide, by decide, by omega, by omega⟩
    (fun i σ' H' => ∃ y3 y4, σ' = [some (.ref g), some (.int ((h : Int) * w)), some (.ref p), y3, y4, none] ∧ Ex H H' ∧ ∃ bs : List (Addr × List Int), H' p = some (.lst (bs.map toV)) ∧ bs.map (·.2) = ringsTo h w i ∧ ∀ b ∈ bs, (H b.1 = none ∧ b.1 ≠ p) ∧ H' b.1 = some (.lst (b.2.map V.int)))
    (fun H2 e2 => ⟨none, none, rfl, e1.trans e2, [], e2 _ _ h1, rfl, fun b hb => nomatch hb⟩) (fun i σ' H' hi hP => ?_) (fun σ' H' hP => ?_)
  · obtain ⟨y3, y4, rfl, e2, bs, h2, hbs, hb⟩ := hP
    have hs2 := ex_t e2 hs
    have ei : (1 : Int) + (i : Int) = ((i + 1 : Nat) : Int) := by omega
    have hik : i + 1 < 2 ^ (h * w) := by omega
    rw [ei]
    have l := el_lcR (σ := [some (.ref g), some (.int ((h : Int) * w)), some (.ref p), some (.int ((i + 1 : Nat) : Int)), y4, none]) (H := H') (t := tTest (tOp rEq (tOp oAnd (tOp oShr (tVar 3) (tVar 5)) (tC (.int 1))) (tC (.int 1)))) (te := tVar 5) (j := 5) (vs := [5]) (n := h * w) (ta := tCons (tVar 1) tNil)
      (fun c => decide ((i + 1) / 2 ^ c % 2 = 1)) (fun c => V.int (c : Int)) (ea_cons (by rw [cast]; exact ev_var rfl) ea_nil) (by omega) (fun x => rfl)
      (fun c H3 e3 hc => by
        have v : Ev (tOp oAnd (tOp oShr (tVar 3) (tVar 5)) (tC (.int 1))) [some (.ref g), some (.int ((h : Int) * w)), some (.ref p), some (.int ((i + 1 : Nat) : Int)), y4, some (.int (c : Int))] H3 (.int (((i + 1) / 2 ^ c % 2 : Nat) : Int)) := by
          refine ev_is (ev_op (ev_op (x := .int ((i + 1 : Nat) : Int)) (y := .int (c : Int)) (ev_var rfl) (ev_var rfl) (rv_I (by show (0 : Int) ≤ _; omega))) (ev_c (v := .int 1)) rv_I0) ?_
          show V.int (Builtin.bitAnd (((i + 1 : Nat) : Int) / 2 ^ ((c : Int)).toNat) 1) = _
          rw [PyProof.Rows.bitAnd_m1, Int.toNat_natCast]
          congr 1
        refine et_is (et_test (ev_op v (ev_c (v := .int 1)) (rv_eq rfl))) ?_
        rw [Bool.eq_iff_iff]
        simp only [decide_eq_true_eq, V.int.injEq]
        omega) (fun c H3 e3 hc _ => ev_var rfl)
    have le : (((List.range (h * w)).filter fun (c : Nat) => decide ((i + 1) / 2 ^ c % 2 = 1)).map fun (c : Nat) => V.int (c : Int)) = (cellsOf (h * w) (i + 1)).map V.int := by
      unfold cellsOf
      rw [List.map_map]
      rfl
    rw [le] at l
    refine q_asgL (i := 4) l fun c H3 hc e3 h3 => ?_
    have cne := cellsOf_ne (m := h * w) (k := i + 1) (by omega) hik
    have cl := cellsOf_len (h * w) (i + 1)
    have rs := ringsTo_succ h w i
    have rl := ringsTo_len h w i
    have bl : bs.length ≤ i := by
      have := congrArg List.length hbs
      rw [List.length_map] at this
      omega
    generalize cellsOf (h * w) (i + 1) = cs at *
    have cp : c ≠ p := (ne_of_none h2 hc).symm
    refine s_when (b := isRing h w cs) (et_B (ev_is_ring (ea_cons (ev_var rfl) (ea_cons (ev_var rfl) ea_nil)) (ex_t e3 hs2) gk (sq_of h3) cne (by omega))) (fun hb' H4 e4 => ?_) (fun hb' H4 e4 => ?_)
    · refine s_app (K := K) (l := p) (v := .ref c) (e4 _ _ (e3 _ _ h2)) (ev_var rfl) (ev_var rfl) (by rw [List.length_map]; omega) fun H5 e5 => ⟨_, _, rfl, Ex.mut (((e2.trans e3).trans e4).trans e5) hp, bs ++ [(c, cs)], ?_, ?_, fun b hm => ?_⟩
      · rw [upd_same, List.map_append]
        rfl
      · rw [List.map_append, rs, hbs, if_pos hb']
        rfl
      · rcases List.mem_append.mp hm with hm | hm
        · have z := hb b hm
          refine ⟨z.1, ?_⟩
          rw [upd_ne z.1.2]
          exact e5 _ _ (e4 _ _ (e3 _ _ z.2))
        · have : b = (c, cs) := by simpa using hm
          subst this
          refine ⟨⟨fresh_back e2 hc, cp⟩, ?_⟩
          rw [upd_ne cp]
          exact e5 _ _ (e4 _ _ h3)
    · refine ⟨_, _, rfl, (e2.trans e3).trans e4, bs, e4 _ _ (e3 _ _ h2), ?_, fun b hm => ?_⟩
      · rw [rs, hbs, hb', if_neg (by decide), List.append_nil]
      · have z := hb b hm
        exact ⟨z.1, e4 _ _ (e3 _ _ z.2)⟩
  · obtain ⟨y3, y4, rfl, e2, bs, h2, hbs, hb⟩ := hP
    have en : (((2 ^ (h * w) : Nat) : Int) - 1).toNat = 2 ^ (h * w) - 1 := by omega
    rw [en] at hbs
    refine s_retP (ep_sortedRows (K := K) (bs := bs) (ev_var rfl) (sq_of h2) (fun b hm => sq_of (hb b hm).2)) fun v H3 e3 hv => ?_
    obtain ⟨l, rfl, hl, h3⟩ := hv
    refine q _ H3 (e2.trans e3) ?_
    have e4 : allRings h w = (bs.mergeSort fun p q => decide (p.2 ≤ q.2)).map (·.2) := by
      unfold allRings
      rw [← hbs]
      exact (List.map_mergeSort (r := fun p q : Addr × List Int => decide (p.2 ≤ q.2)) (s := fun p q : List Int => decide (p ≤ q)) (f := fun b : Addr × List Int => b.2) (fun _ _ _ _ => rfl)).symm
    rw [e4]
    exact NewLL.of (fresh_back e2 hl) h3 fun b hm => by
      have hm := List.mem_mergeSort.mp hm
      exact ⟨(hb b hm).1.1, e3 _ _ (hb b hm).2⟩

/-! ### data written in place, equalities of rows -/
def EvAD (K : PySem.W.Frag) (ta : TA) (σ : L2.St) (H : Hp) (ds : List PyData) : Prop := ∀ H1, Ex H H1 → ∀ Q : List V → Hp → Prop, (∀ vs H2, Ex H1 H2 → DpAll K H2 vs ds → Q vs H2) → ta σ H1 Q
section
variable {K : PySem.W.Frag} {σ : L2.St} {H H' : Hp} {ta tb te : TE} {tr : TA} {d : PyData} {ds : List PyData}
theorem ead_nil : EvAD K tNil σ H [] := fun H1 _ _ q => q [] H1 (Ex.refl H1) .nil
theorem ead_cons (h : EvD K ta σ H d) (hr : EvAD K tr σ H ds) : EvAD K (tCons ta tr) σ H (d :: ds) := fun H1 e _ q =>
  h H1 e _ fun v H2 e2 hv => hr H2 (e.trans e2) _ fun vs H3 e3 hs => q (v :: vs) H3 (e2.trans e3) (.cons (Dp.mono e3 hv) hs)
theorem ed_lst (h : EvAD K tr σ H ds) (hl : ds.length ≤ 1000) : EvD K (tLst tr) σ H (.list ds) := fun H1 e Q q =>
  h H1 e _ fun vs H2 e2 hs => ⟨sz_of (by rw [dpAll_len hs]; omega), fun p hp => q _ _ (e2.trans (Ex.new hp)) (.lst (sq_of upd_same) (DpAll.mono (Ex.new hp) hs))⟩
theorem ed_tup (h : EvAD K tr σ H ds) (hl : ds.length ≤ 1000) : EvD K (tTup tr) σ H (.tuple ds) := fun H1 e Q q =>
  h H1 e _ fun vs H2 e2 hs => ⟨sz_of (by rw [dpAll_len hs]; omega), fun p hp => q _ _ (e2.trans (Ex.new hp)) (.tup (st_of upd_same) (DpAll.mono (Ex.new hp) hs))⟩
theorem ed_int {i : Int} (h : Ev te σ H (.int i)) : EvD K te σ H (.int i) := ed_of h (.int i)
theorem ed_is {d' : PyData} (h : EvD K te σ H d) (e : d = d') : EvD K te σ H d' := e ▸ h
end
theorem lay_dI (ns : List Int) : PyData.canLay0 (dI ns) = true := by
  unfold dI
  rw [PyData.canLay0]
  exact lay_ints ns
theorem lay_rows : ∀ nss : List (List Int), PyData.canLayAll0 (nss.map dI) = true
  | [] => rfl
  | n :: r => by
    rw [List.map_cons, PyData.canLayAll0, lay_dI n, lay_rows r]
    rfl
theorem depth_rows : ∀ nss : List (List Int), PyData.depthAll (nss.map dI) ≤ 2
  | [] => by simp [PyData.depthAll]
  | n :: r => by
    have h1 := depth_rows r
    have h2 := depth_ints n
    rw [List.map_cons, PyData.depthAll]
    have h3 : (dI n).depth ≤ 2 := by
      unfold dI
      rw [PyData.depth]
      omega
    omega
theorem shaped_rows (nss : List (List Int)) : SeqAt.shaped (dII nss) = true := shaped_of_len (lay_rows nss) (by have := depth_rows nss; omega)
theorem eqvAll_ints : ∀ xs ys : List Int, PyData.eqvAll (xs.map PyData.int) (ys.map PyData.int) = decide (xs = ys)
  | [], [] => by simp [PyData.eqvAll]
  | [], _ :: _ => by simp [PyData.eqvAll]
  | _ :: _, [] => by simp [PyData.eqvAll]
  | x :: xs, y :: ys => by
    rw [List.map_cons, List.map_cons, PyData.eqvAll, eqvAll_ints xs ys, PyData.eqv]
    rw [Bool.eq_iff_iff]
    simp
theorem eqv_dI (xs ys : List Int) : PyData.eqv (dI xs) (dI ys) = decide (xs = ys) := by
  unfold dI
  rw [PyData.eqv]
  exact eqvAll_ints xs ys
theorem eqvAll_rows : ∀ xs ys : List (List Int), PyData.eqvAll (xs.map dI) (ys.map dI) = decide (xs = ys)
  | [], [] => by simp [PyData.eqvAll]
  | [], _ :: _ => by simp [PyData.eqvAll]
  | _ :: _, [] => by simp [PyData.eqvAll]
  | x :: xs, y :: ys => by
    rw [List.map_cons, List.map_cons, PyData.eqvAll, eqvAll_rows xs ys, eqv_dI]
    rw [Bool.eq_iff_iff]
    simp
theorem eqv_dII (xs ys : List (List Int)) : PyData.eqv (dII xs) (dII ys) = decide (xs = ys) := by
  unfold dII
  rw [PyData.eqv]
  exact eqvAll_rows xs ys
theorem any_dI (xs : List (List Int)) (y : List Int) : ((xs.map dI).any fun z => PyData.eqv z (dI y)) = decide (y ∈ xs) := by
  rw [List.any_map, Bool.eq_iff_iff]
  simp only [List.any_eq_true, Function.comp, eqv_dI, decide_eq_true_eq]
  exact ⟨fun ⟨x, h, e⟩ => e ▸ h, fun h => ⟨y, h, rfl⟩⟩
theorem ed_rowsAt {K : PySem.W.Frag} {σ : L2.St} {H : Hp} {te : TE} {a : Addr} {nss : List (List Int)} (h : Ev te σ H (.ref a)) (hr : RowsAt K H a nss) : EvD K te σ H (dII nss) := ed_of h hr.dp
theorem NewLL.rows {K : PySem.W.Frag} {H1 H2 : Hp} {v : V} {nss : List (List Int)} (h : NewLL H1 v H2 (ints2 nss)) : ∃ p, v = .ref p ∧ H1 p = none ∧ RowsAt K H2 p nss := by
  obtain ⟨p, bs, rfl, hp, h2, rfl, hb⟩ := h.bs
  refine ⟨p, rfl, hp, bs.map (·.1), ?_, ?_⟩
  · rw [List.map_map]
    exact sq_of h2
  · have : ∀ {cs : List (Addr × List Int)}, (∀ b ∈ cs, H2 b.1 = some (.lst (b.2.map V.int))) → Paired (fun (r : Addr) (ns : List Int) => SqL K H2 r (ns.map V.int)) (cs.map (·.1)) (cs.map (·.2)) := by
      intro cs
      induction cs with
      | nil => exact fun _ => .nil
      | cons c r ih => exact fun h => .cons (sq_of (h c List.mem_cons_self)) (ih fun b m => h b (List.mem_cons_of_mem _ m))
    exact this fun b m => (hb b m).2
/-! ### fits -/
theorem ep_numbers_ofS {K : PySem.W.Frag} {σ : L2.St} {H : Hp} {ta tb : TE} {E : XK} {h w : Nat} {cs : List Int} (ha : EvST K ta σ H [.int (h : Int), .int (w : Int)]) (gk : GOk h w) (hc : EvS K tb σ H (cs.map V.int)) :
    EvP (tCall (sp_numbers_of K) [] E (tCons ta (tCons tb tNil))) σ H (fun H1 v H2 => NewLL H1 v H2 (ints2 (numbersOf h w cs))) := fun H1 e Q q =>
  ha H1 e _ fun g H2 e2 hg => hc H2 (e.trans e2) _ fun c H3 e3 hc3 => ⟨g, c, h, w, cs, rfl, ex_t e3 hg, gk, hc3, fun v H4 e4 z => q v H4 ((e2.trans e3).trans e4) (z.back (e2.trans e3))⟩
/-- clues as the program may ask of them -/
structure CluesR (nss : List (List Int)) : Prop where
  g : GOk nss.length (nss.headD []).length
  few : nss.length * (nss.headD []).length ≤ 9
  len : ∀ ns ∈ nss, ns.length ≤ 1000
section
variable {K : PySem.W.Frag} {σ : L2.St} {H H' : Hp} {te : TE} {a : Addr} {nss : List (List Int)}
theorem ev_lenRows (h : Ev te σ H (.ref a)) (hr : RowsAt K H a nss) : Ev (tCB (rLenS K) (tCons te tNil)) σ H (.int (nss.length : Int)) := by
  obtain ⟨rs, h1, h2⟩ := hr
  refine ev_is (ev_lenS (K := K) (es_of h h1)) ?_
  rw [List.length_map, Paired.length h2]
theorem ev_row0 (h : Ev te σ H (.ref a)) (hr : RowsAt K H a nss) (hn : 1 ≤ nss.length) : ∃ r, Ev (tOp (rIxL K) te (tC (.int 0))) σ H (.ref r) ∧ SqL K H r ((nss.headD []).map V.int) := by
  obtain ⟨rs, h1, h2⟩ := hr
  cases h2 with
  | nil => simp at hn
  | cons h3 h4 => exact ⟨_, ev_ixS (es_of h h1) ev_c (atI_nat (j := 0) rfl), h3⟩
theorem est_dims (h : Ev te σ H (.ref a)) (hr : RowsAt K H a nss) (hn : 1 ≤ nss.length) : EvST K (tTup (tCons (tCB (rLenS K) (tCons te tNil)) (tCons (tCB (rLenS K) (tCons (tOp (rIxL K) te (tC (.int 0))) tNil)) tNil))) σ H [.int (nss.length : Int), .int ((nss.headD []).length : Int)] := by
  obtain ⟨r, e1, s1⟩ := ev_row0 h hr hn
  refine est_new (eu_tup (ea_cons (ev_lenRows h hr) (ea_cons (ev_is (ev_lenS (K := K) (es_of e1 s1)) ?_) ea_nil)) (by simp))
  rw [List.length_map]
end
theorem paired_len_get {α β : Type} {F : α → β → Prop} {l : List α} {m : List β} (h : Paired F l m) : l.length = m.length := Paired.length h
def sp_fits (K : PySem.W.Frag) : Sp := fun vs H Q _ => ∃ a c nss cs, vs = [.ref a, .ref c] ∧ RowsAt K H a nss ∧ CluesR nss ∧ SqL K H c ((cs : List Int).map V.int) ∧ RetV (.bl (fits nss cs)) H Q
theorem ev_fits {K : PySem.W.Frag} {σ : L2.St} {H : Hp} {ta : TA} {E : XK} {a c : Addr} {nss : List (List Int)} {cs : List Int} (ha : EvA ta σ H [.ref a, .ref c]) (hr : RowsAt K H a nss) (ck : CluesR nss) (hc : SqL K H c (cs.map V.int)) : Ev (tCall (sp_fits K) [] E ta) σ H (.bl (fits nss cs)) := fun H1 e Q q =>
  ha H1 e _ fun H2 e2 => ⟨a, c, nss, cs, rfl, hr.mono (e.trans e2), ck, ex_l (e.trans e2) hc, fun H3 e3 => q H3 (e2.trans e3)⟩
def t_fits (K : PySem.W.Frag) : TS := (tSeq (tAsg (tCall (sp_numbers_of K) [] E0 (tCons (tTup (tCons (tCB (rLenS K) (tCons (tVar 0) tNil)) (tCons (tCB (rLenS K) (tCons (tOp (rIxL K) (tVar 0) (tC (.int 0))) tNil)) tNil))) (tCons (tVar 1) tNil))) (gName 2))
      (tSeq (tFor (iZip K (tCons (tVar 0) (tCons (tVar 2) tNil))) (gTup K 2 (gCons (gName 3) (gCons (gName 4) gNil))) (tIfS (tB (tCB (rAny K) (tCons (tLc (iZip K (tCons (tVar 3) (tCons (tVar 4) tNil))) (gTup K 2 (gCons (gName 5) (gCons (gName 6) gNil))) tYes (tAndV (tOp oGe (tVar 5) (tC (.int 0))) (tOp rNe (tVar 5) (tVar 6))) [5, 6]) tNil))) (tRet (tC (.bl false))) tNext))
      (tRet (tC (.bl true)))))
theorem any_row {K : PySem.W.Frag} {σ : L2.St} {H : Hp} {r q : Addr} {ns ms : List Int} {i j : Nat} {k l : Nat} (hi : σ[i]? = some (some (.ref r))) (hj : σ[j]? = some (some (.ref q))) (hr : SqL K H r (ns.map V.int)) (hq : SqL K H q (ms.map V.int)) (hl : ns.length ≤ 1000)
    (hw : ∀ x y, wipe (((wipe σ [k, l]).set k (some x)).set l (some y)) [k, l] = wipe σ [k, l]) (h1 : ∀ x y : V, (((wipe σ [k, l]).set k (some x)).set l (some y))[k]? = some (some x)) (h2 : ∀ x y : V, (((wipe σ [k, l]).set k (some x)).set l (some y))[l]? = some (some y)) :
    Ev (tCB (rAny K) (tCons (tLc (iZip K (tCons (tVar i) (tCons (tVar j) tNil))) (gTup K 2 (gCons (gName k) (gCons (gName l) gNil))) tYes (tAndV (tOp oGe (tVar k) (tC (.int 0))) (tOp rNe (tVar k) (tVar l))) [k, l]) tNil)) σ H (.bl (!rowFits ns ms)) := by
  have w := el_lcZ (K := K) (t := tYes) (te := tAndV (tOp oGe (tVar k) (tC (.int 0))) (tOp rNe (tVar k) (tVar l))) (σ := σ) (H := H) (i := k) (j := l) (vs := [k, l]) (fun _ => true) (fun p => match p with | (.int x, .int y) => V.bl (decide (0 ≤ x) && !decide (x = y)) | _ => .non)
    (es_of (ev_var hi) hr) (es_of (ev_var hj) hq) (by rw [List.length_map]; omega) hw (fun _ _ _ _ => et_yes) (fun p H1 e1 hp _ => by
      obtain ⟨x, y⟩ := p
      have hz := List.of_mem_zip hp
      obtain ⟨m, _, rfl⟩ := List.mem_map.mp hz.1
      obtain ⟨n, _, rfl⟩ := List.mem_map.mp hz.2
      refine ev_is (ev_andV (a := decide (0 ≤ m)) (b := !decide (V.int m = V.int n)) (ev_op (x := .int m) (y := .int 0) (ev_var (h1 _ _)) ev_c rv_I0) (fun _ => ev_op (ev_var (h1 _ _)) (ev_var (h2 _ _)) (rv_ne rfl))) ?_
      simp)
  have e : ((((ns.map V.int).zip (ms.map V.int)).filter fun _ => true).map (fun p => match p with | (.int x, .int y) => V.bl (decide (0 ≤ x) && !decide (x = y)) | _ => .non)) = ((ns.zip ms).map fun p => decide (0 ≤ p.1) && !decide (p.1 = p.2)).map V.bl := by
    rw [filter_yes, List.zip_map, List.map_map, List.map_map]
    rfl
  rw [e] at w
  refine ev_is (ev_anyS (K := K) (es_new (K := K) w)) ?_
  unfold rowFits
  rw [Bool.not_not, List.any_map]
  rfl
theorem pure_fits {K : PySem.W.Frag} {vs : List V} {H : Hp} {Q : VK} {E : XK} {D : Ends} (hD : D.rt = Q) (h : sp_fits K vs H Q E) : t_fits K D (start ["clues", "cells", "told", "row", "line", "clue", "number"] vs) H := by
  obtain ⟨a, c, nss, cs, rfl, hr, ck, hc, q⟩ := h
  subst hD
  change t_fits K D [some (.ref a), some (.ref c), none, none, none, none, none] H
  have g1 := ck.g.1
  refine q_asgP (i := 2) (ep_numbers_ofS (K := K) (est_dims (ev_var rfl) hr g1) ck.g (es_of (ev_var rfl) hc)) fun v H1 e1 hv => ?_
  obtain ⟨p, rfl, hp, hn⟩ := hv.rows (K := K)
  have hr1 := hr.mono e1
  have isF : fits nss cs = (nss.zip (numbersOf nss.length (nss.headD []).length cs)).all fun p => rowFits p.1 p.2 := rfl
  have ln : (numbersOf nss.length (nss.headD []).length cs).length = nss.length := by
    unfold numbersOf
    rw [List.length_map, List.length_range]
  generalize numbersOf nss.length (nss.headD []).length cs = mss at *
  obtain ⟨rs, s1, s2⟩ := hr1
  obtain ⟨ls, l1, l2⟩ := hn
  have n1 := Paired.length s2
  have n2 := Paired.length l2
  refine q_forZ (K := K) (i := 3) (j := 4) (ev_var rfl) (ev_var rfl) s1 l1 (by rw [List.length_map, List.length_map]; omega) (fun n σ' H' => ∃ y3 y4, σ' = [some (.ref a), some (.ref c), some (.ref p), y3, y4, none, none] ∧ Ex H1 H' ∧ ∀ p ∈ (nss.zip mss).take n, rowFits p.1 p.2 = true)
    (fun H2 e2 => ⟨_, _, rfl, e2, by simp⟩) (fun n σ' H' hP => by obtain ⟨_, _, _, e2, _⟩ := hP; exact e2) (fun n x y σ' H2 T hx hy hP hT => ?_) (fun σ' H2 hP => ?_)
  · obtain ⟨y3, y4, rfl, e2, hk⟩ := hP
    rw [List.getElem?_map] at hx hy
    obtain ⟨r, hrn, rfl⟩ := Option.map_eq_some_iff.mp hx
    obtain ⟨l, hln, rfl⟩ := Option.map_eq_some_iff.mp hy
    obtain ⟨ns, hns, sr⟩ := paired_get s2 hrn
    obtain ⟨ms, hms, sl⟩ := paired_get l2 hln
    have e3 : Ex H1 (upd H2 T (.tup [.ref r, .ref l])) := e2.trans (Ex.new hT)
    have an := any_row (K := K) (σ := [some (.ref a), some (.ref c), some (.ref p), some (.ref r), some (.ref l), none, none]) (H := upd H2 T (.tup [.ref r, .ref l])) (i := 3) (j := 4) (k := 5) (l := 6) rfl rfl (ex_l e3 sr) (ex_l e3 sl) (ck.len ns (List.mem_of_getElem? hns)) (fun _ _ => rfl) (fun _ _ => rfl) (fun _ _ => rfl)
    have hz : (nss.zip mss)[n]? = some (ns, ms) := by
      rw [List.getElem?_zip_eq_some]
      exact ⟨hns, hms⟩
    refine s_when (et_B an) (fun hb H4 e4 => ?_) (fun hb H4 e4 => ⟨_, _, rfl, e3.trans e4, fun z hz' => ?_⟩)
    · refine s_ret ev_c fun H5 e5 => ?_
      have : fits nss cs = false := by
        rw [isF, List.all_eq_false]
        exact ⟨(ns, ms), List.mem_of_getElem? hz, by simpa using hb⟩
      rw [this] at q
      exact q H5 (((e1.trans e3).trans e4).trans e5)
    · rw [take_snoc hz] at hz'
      rcases List.mem_append.mp hz' with m | m
      · exact hk z m
      · have : z = (ns, ms) := by simpa using m
        rw [this]
        simpa using hb
  · obtain ⟨y3, y4, rfl, e2, hk⟩ := hP
    have hl : (rs.map V.ref).length = (nss.zip mss).length := by
      rw [List.length_map, List.length_zip]
      omega
    rw [hl, List.take_length] at hk
    refine s_ret ev_c fun H3 e3 => ?_
    have : fits nss cs = true := by
      rw [isF, List.all_eq_true]
      exact hk
    rw [this] at q
    exact q H3 ((e1.trans e2).trans e3)
/-! ### fitting_of -/
def sp_fitting_of (K : PySem.W.Frag) : Sp := fun vs H Q _ => ∃ a nss, vs = [.ref a] ∧ RowsAt K H a nss ∧ CluesR nss ∧ RetP (fun H1 v H2 => NewLL H1 v H2 (ints2 (fittingOf nss))) H Q
theorem ep_fitting_of {K : PySem.W.Frag} {σ : L2.St} {H : Hp} {ta : TA} {E : XK} {a : Addr} {nss : List (List Int)} (ha : EvA ta σ H [.ref a]) (hr : RowsAt K H a nss) (ck : CluesR nss) : EvP (tCall (sp_fitting_of K) [] E ta) σ H (fun H1 v H2 => NewLL H1 v H2 (ints2 (fittingOf nss))) := fun H1 e Q q =>
  ha H1 e _ fun H2 e2 => ⟨a, nss, rfl, hr.mono (e.trans e2), ck, fun v H3 e3 z => q v H3 (e2.trans e3) (z.back e2)⟩
def t_fitting_of (K : PySem.W.Frag) : TS := (tRet (tLc (iList K (tCall (sp_all_rings K) [] E0 (tCons (tTup (tCons (tCB (rLenS K) (tCons (tVar 0) tNil)) (tCons (tCB (rLenS K) (tCons (tOp (rIxL K) (tVar 0) (tC (.int 0))) tNil)) tNil))) tNil))) (gName 1) (tB (tCall (sp_fits K) [] E0 (tCons (tVar 0) (tCons (tVar 1) tNil)))) (tVar 1) [1]))
theorem pure_fitting_of {K : PySem.W.Frag} {vs : List V} {H : Hp} {Q : VK} {E : XK} {D : Ends} (hD : D.rt = Q) (h : sp_fitting_of K vs H Q E) : t_fitting_of K D (start ["clues", "cells"] vs) H := by
  obtain ⟨a, nss, rfl, hr, ck, q⟩ := h
  subst hD
  change t_fitting_of K D [some (.ref a), none] H
  have g1 := ck.g.1
  refine s_retP (ep_lcRows (K := K) (j := 1) (vs := [1]) (fits nss) (ep_all_rings (K := K) (est_dims (ev_var rfl) hr g1) ck.g ck.few) (by have := allRings_len nss.length (nss.headD []).length ck.few; omega) (fun _ => rfl) (fun _ => rfl) (fun ns p H1 e1 hm h1 => ?_)) fun v H1 e1 hv => q v H1 e1 hv
  exact et_B (ev_fits (ea_cons (ev_var rfl) (ea_cons (ev_var rfl) ea_nil)) (hr.mono e1) ck (sq_of h1))
/-! ### One, Two, Never -/
def fldsC (u : V) : List (Str × V) := [("cells", u)]
theorem fldsC_cells {u : V} : (fldsC u).lookup ("cells" : Str) = some u := lk_self
theorem fldsC_shows {u : V} : (fldsC u).lookup ("shows" : Str) = none := lk_ne shows_cells
/-- a new instance of One, Two: new lists -/
def NewOne (C : Ad) (xs : List V) (H1 : Hp) (v : V) (H2 : Hp) : Prop := ∃ p dx l, v = .ref p ∧ H1 p = none ∧ H1 l = none ∧ H2 p = some (.ins C.cOne dx (fldsC (.ref l))) ∧ H2 l = some (.lst xs)
def NewTwo (C : Ad) (xs ys : List V) (H1 : Hp) (v : V) (H2 : Hp) : Prop := ∃ p dx l m, v = .ref p ∧ H1 p = none ∧ H1 l = none ∧ H1 m = none ∧ l ≠ m ∧ H2 p = some (.ins C.cTwo dx (flds2 (.ref l) (.ref m))) ∧ H2 l = some (.lst xs) ∧ H2 m = some (.lst ys)
def sp_One_init (K : PySem.W.Frag) (C : Ad) : Sp := fun vs H Q _ => ∃ p dx a xs, vs = [.ref p, .ref a] ∧ H p = some (.ins C.cOne dx []) ∧ SqL K H a xs ∧ ∀ l H2, H l = none → ButP p H H2 → H2 p = some (.ins C.cOne dx (fldsC (.ref l))) → H2 l = some (.lst xs) → Q .non H2
def t_One_init (K : PySem.W.Frag) : TS := (sFld K (tVar 0) (tCB (rListS K) (tCons (tVar 1) tNil)) "cells")
theorem pure_One_init {K : PySem.W.Frag} {C : Ad} {vs : List V} {H : Hp} {Q : VK} {E : XK} {D : Ends} (hD : D.nx = fun _ H' => Q .non H') (cf_One : Cf K C.cOne ["cells"]) (h : sp_One_init K C vs H Q E) : t_One_init K D (start ["self", "cells"] vs) H := by
  obtain ⟨p, dx, a, xs, rfl, hp, ha, q⟩ := h
  change t_One_init K D [some (.ref p), some (.ref a)] H
  refine s_fldL (xs := xs) (el_listS (es_of (ev_var rfl) ha)) (ev_var rfl) hp cf_One (by simp) (by simp) fun l H1 hl e1 h1 => ?_
  rw [hD]
  have ne : l ≠ p := (ne_of_none hp hl).symm
  refine q l _ hl (fun b o nb hb => ?_) upd_same ?_
  · rw [upd_ne nb]
    exact e1 _ _ hb
  · rw [upd_ne ne]
    exact h1
theorem ep_One {K : PySem.W.Frag} {C : Ad} {σ : L2.St} {H : Hp} {ta : TE} {E : XK} {xs : List V} (ha : EvS K ta σ H xs) : EvP (tMake C.cOne (sp_One_init K C) [] E (tCons ta tNil)) σ H (NewOne C xs) := fun H1 e Q q =>
  ha H1 e _ fun a H2 e2 hx x dx hx1 hdx ne => by
    have e3 : Ex H2 (upd (upd H2 dx (.own x)) x (.ins C.cOne dx [])) := fun b o hb => by rw [upd_ne (ne_of_none hb hx1), upd_ne (ne_of_none hb hdx)]; exact hb
    refine ⟨x, dx, a, xs, rfl, upd_same, ex_l e3 hx, fun l H3 hl b h3 h4 => ⟨rfl, q _ H3 (e2.trans (made_ex hx1 hdx b)) ⟨x, dx, l, rfl, fresh_back e2 hx1, fresh_back (e2.trans e3) hl, h3, h4⟩⟩⟩
def sp_Two_init (K : PySem.W.Frag) (C : Ad) : Sp := fun vs H Q _ => ∃ p dx a b xs ys, vs = [.ref p, .ref a, .ref b] ∧ H p = some (.ins C.cTwo dx []) ∧ SqL K H a xs ∧ SqL K H b ys ∧ a ≠ p ∧ b ≠ p ∧ ∀ l m H2, H l = none → H m = none → l ≠ m → ButP p H H2 → H2 p = some (.ins C.cTwo dx (flds2 (.ref l) (.ref m))) → H2 l = some (.lst xs) → H2 m = some (.lst ys) → Q .non H2
def t_Two_init (K : PySem.W.Frag) : TS := (tSeq (sFld K (tVar 0) (tCB (rListS K) (tCons (tVar 1) tNil)) "one")
      (sFld K (tVar 0) (tCB (rListS K) (tCons (tVar 2) tNil)) "other"))
theorem sql_but {K : PySem.W.Frag} {p b : Addr} {H H2 : Hp} {xs : List V} (h : ButP p H H2) (ne : b ≠ p) (hs : SqL K H b xs) : SqL K H2 b xs := by
  rcases hs with (hs | ⟨o, hs⟩) | hs
  · exact .inl (.inl (h _ _ ne hs))
  · exact .inl (.inr ⟨o, h _ _ ne hs⟩)
  · exact .inr hs
theorem pure_Two_init {K : PySem.W.Frag} {C : Ad} {vs : List V} {H : Hp} {Q : VK} {E : XK} {D : Ends} (hD : D.nx = fun _ H' => Q .non H') (cf_Two : Cf K C.cTwo ["one", "other"]) (h : sp_Two_init K C vs H Q E) : t_Two_init K D (start ["self", "one", "other"] vs) H := by
  obtain ⟨p, dx, a, b, xs, ys, rfl, hp, ha, hb, na, nb, q⟩ := h
  change t_Two_init K D [some (.ref p), some (.ref a), some (.ref b)] H
  refine q_fldL (xs := xs) (el_listS (es_of (ev_var rfl) ha)) (ev_var rfl) hp cf_Two (by simp) (by simp) fun l H1 hl e1 h1 => ?_
  have lp : l ≠ p := (ne_of_none hp hl).symm
  have bt : ButP p H (upd H1 p (.ins C.cTwo dx (putF "one" (.ref l) []))) := fun c o nc hc => by rw [upd_ne nc]; exact e1 _ _ hc
  refine s_fldL (xs := ys) (el_listS (es_of (ev_var rfl) (sql_but bt nb hb))) (ev_var rfl) upd_same cf_Two (by simp) (by simp [putF]) fun m H2 hm e2 h2 => ?_
  rw [hD]
  have h1' : (upd H1 p (.ins C.cTwo dx (putF "one" (.ref l) []))) l = some (.lst xs) := by rw [upd_ne lp]; exact h1
  have mp : m ≠ p := fun z => by rw [z, upd_same] at hm; cases hm
  have lm : l ≠ m := fun z => by rw [← z, h1'] at hm; cases hm
  have hm1 : H1 m = none := by rw [upd_ne mp] at hm; exact hm
  refine q l m _ hl (fresh_back e1 hm1) lm (fun c o nc hc => ?_) ?_ ?_ ?_
  · rw [upd_ne nc]
    exact e2 _ _ (bt _ _ nc hc)
  · rw [upd_same]
    exact congrArg (fun z => some (HO.ins C.cTwo dx z)) (put_ne one_other)
  · rw [upd_ne lp]
    exact e2 _ _ h1'
  · rw [upd_ne mp]
    exact h2
theorem sql_ne {K : PySem.W.Frag} {H : Hp} {a x : Addr} {xs : List V} (h : SqL K H a xs) (hk : ∀ o, K.lookup a = some o → a ≠ x) (hx : H x = none) : a ≠ x := by
  rcases h with (h | ⟨o, h⟩) | ⟨o, its, n, h, _⟩
  · exact ne_of_none h hx
  · exact ne_of_none h hx
  · exact hk o h
theorem ep_Two {K : PySem.W.Frag} {C : Ad} {σ : L2.St} {H : Hp} {ta tb : TE} {E : XK} {xs ys : List V} {a b : Addr} (ha : Ev ta σ H (.ref a)) (hb : Ev tb σ H (.ref b)) (hx : H a = some (.lst xs)) (hy : H b = some (.lst ys)) : EvP (tMake C.cTwo (sp_Two_init K C) [] E (tCons ta (tCons tb tNil))) σ H (NewTwo C xs ys) := fun H1 e Q q =>
  ha H1 e _ fun H2 e2 => hb H2 (e.trans e2) _ fun H3 e3 x dx hx1 hdx ne => by
    have e4 : Ex H3 (upd (upd H3 dx (.own x)) x (.ins C.cTwo dx [])) := fun c o hc => by rw [upd_ne (ne_of_none hc hx1), upd_ne (ne_of_none hc hdx)]; exact hc
    have e14 := (e.trans e2).trans e3
    refine ⟨x, dx, a, b, xs, ys, rfl, upd_same, sq_of (e4 _ _ (e14 _ _ hx)), sq_of (e4 _ _ (e14 _ _ hy)), ne_of_none (e14 _ _ hx) hx1, ne_of_none (e14 _ _ hy) hx1, fun l m H4 hl hm lm bt h5 h6 h7 => ⟨rfl, q _ H4 ((e2.trans e3).trans (made_ex hx1 hdx bt)) ⟨x, dx, l, m, rfl, fresh_back (e2.trans e3) hx1, fresh_back ((e2.trans e3).trans e4) hl, fresh_back ((e2.trans e3).trans e4) hm, lm, h5, h6, h7⟩⟩⟩
def sp_One_shows (K : PySem.W.Frag) (C : Ad) : Sp := fun vs H Q _ => ∃ p a dx l nss ns, vs = [.ref p, .ref a] ∧ H p = some (.ins C.cOne dx (fldsC (.ref l))) ∧ SqL K H l ((ns : List Int).map V.int) ∧ RowsAt K H a nss ∧ CluesR nss ∧ RetV (.bl (decide (fittingOf nss = [ns]))) H Q
def t_One_shows (K : PySem.W.Frag) : TS := (tRet (tOp (rEqD K) (tCall (sp_fitting_of K) [] E0 (tCons (tVar 1) tNil)) (tLst (tCons (tFld K (tVar 0) "cells") tNil))))
theorem pure_One_shows {K : PySem.W.Frag} {C : Ad} {vs : List V} {H : Hp} {Q : VK} {E : XK} {D : Ends} (hD : D.rt = Q) (cf_One : Cf K C.cOne ["cells"]) (h : sp_One_shows K C vs H Q E) : t_One_shows K D (start ["self", "clues"] vs) H := by
  obtain ⟨p, a, dx, l, nss, ns, rfl, hp, hl, hr, ck, q⟩ := h
  subst hD
  change t_One_shows K D [some (.ref p), some (.ref a)] H
  refine s_ret (ev_is (ev_eqD (d := dII (fittingOf nss)) (d' := dII [ns]) (ed_p (ep_fitting_of (ea_cons (ev_var rfl) ea_nil) hr ck) fun _ _ _ z => z.dp) (ed_lst (ead_cons (ed_of (ev_fld (ev_var rfl) hp cf_One (by simp) fldsC_cells) (dp_ints hl)) ead_nil) (by simp)) (shaped_rows _) (shaped_rows _)) (by rw [eqv_dII])) fun H1 e1 => q H1 e1
def twoShows (nss : List (List Int)) (a b : List Int) : Bool := !decide (a = b) && (decide (a ∈ fittingOf nss) && decide (b ∈ fittingOf nss))
def sp_Two_shows (K : PySem.W.Frag) (C : Ad) : Sp := fun vs H Q _ => ∃ p a dx l m nss ns ms, vs = [.ref p, .ref a] ∧ H p = some (.ins C.cTwo dx (flds2 (.ref l) (.ref m))) ∧ SqL K H l ((ns : List Int).map V.int) ∧ SqL K H m ((ms : List Int).map V.int) ∧ RowsAt K H a nss ∧ CluesR nss ∧ RetV (.bl (twoShows nss ns ms)) H Q
def t_Two_shows (K : PySem.W.Frag) : TS := (tSeq (tAsg (tCall (sp_fitting_of K) [] E0 (tCons (tVar 1) tNil)) (gName 2))
      (tRet (tAndV (tOp (rNeD K) (tFld K (tVar 0) "one") (tFld K (tVar 0) "other")) (tAndV (tOp (rInD K) (tFld K (tVar 0) "one") (tVar 2)) (tOp (rInD K) (tFld K (tVar 0) "other") (tVar 2))))))
theorem pure_Two_shows {K : PySem.W.Frag} {C : Ad} {vs : List V} {H : Hp} {Q : VK} {E : XK} {D : Ends} (hD : D.rt = Q) (cf_Two : Cf K C.cTwo ["one", "other"]) (h : sp_Two_shows K C vs H Q E) : t_Two_shows K D (start ["self", "clues", "found"] vs) H := by
  obtain ⟨p, a, dx, l, m, nss, ns, ms, rfl, hp, hl, hm, hr, ck, q⟩ := h
  subst hD
  change t_Two_shows K D [some (.ref p), some (.ref a), none] H
  refine q_asgP (i := 2) (ep_fitting_of (ea_cons (ev_var rfl) ea_nil) hr ck) fun v H1 e1 hv => ?_
  have dv : Dp K H1 v (dII (fittingOf nss)) := hv.dp
  have f1 : EvD K (tFld K (tVar 0) "one") [some (.ref p), some (.ref a), some v] H1 (dI ns) := ed_of (ev_fld (ev_var rfl) (e1 _ _ hp) cf_Two (by simp) flds2_one) (dp_ints (ex_l e1 hl))
  have f2 : EvD K (tFld K (tVar 0) "other") [some (.ref p), some (.ref a), some v] H1 (dI ms) := ed_of (ev_fld (ev_var rfl) (e1 _ _ hp) cf_Two (by simp) flds2_other) (dp_ints (ex_l e1 hm))
  refine s_ret (ev_is (ev_andV (a := !decide (ns = ms)) (ev_is (ev_neD f1 f2 (shaped_ints _) (shaped_ints _)) (by rw [eqv_dI])) (fun _ => ev_andV (a := decide (ns ∈ fittingOf nss)) (b := decide (ms ∈ fittingOf nss)) (ev_is (ev_inD (ds := (fittingOf nss).map dI) f1 (ed_of (ev_var rfl) dv) (shaped_ints _) (shaped_rows _)) (by rw [any_dI])) (fun _ => ev_is (ev_inD (ds := (fittingOf nss).map dI) f2 (ed_of (ev_var rfl) dv) (shaped_ints _) (shaped_rows _)) (by rw [any_dI])))) rfl) fun H2 e2 => q H2 (e1.trans e2)
def sp_Never_shows (K : PySem.W.Frag) : Sp := fun vs H Q _ => ∃ p a nss, vs = [.ref p, .ref a] ∧ RowsAt K H a nss ∧ CluesR nss ∧ RetV (.bl (decide (fittingOf nss = []))) H Q
def t_Never_shows (K : PySem.W.Frag) : TS := (tRet (tOp (rEqD K) (tCall (sp_fitting_of K) [] E0 (tCons (tVar 1) tNil)) (tLst tNil)))
theorem pure_Never_shows {K : PySem.W.Frag} {vs : List V} {H : Hp} {Q : VK} {E : XK} {D : Ends} (hD : D.rt = Q) (h : sp_Never_shows K vs H Q E) : t_Never_shows K D (start ["self", "clues"] vs) H := by
  obtain ⟨p, a, nss, rfl, hr, ck, q⟩ := h
  subst hD
  change t_Never_shows K D [some (.ref p), some (.ref a)] H
  refine s_ret (ev_is (ev_eqD (d := dII (fittingOf nss)) (d' := dII []) (ed_p (ep_fitting_of (ea_cons (ev_var rfl) ea_nil) hr ck) fun _ _ _ z => z.dp) (ed_lst ead_nil (by simp)) (shaped_rows _) (shaped_rows _)) (by rw [eqv_dII])) fun H1 e1 => q H1 e1

/-! ### judged -/
inductive Ans
  | ring
  | split (x y : Int)
  | hole (x : Int)
deriving DecidableEq
def judgedM (h w : Nat) (cs : List Int) : Ans :=
  if (spread h w (cs.headD 0) cs).length < cs.length then .split (cs.headD 0) ((cs.filter fun c => !decide (c ∈ spread h w (cs.headD 0) cs)).headD 0)
  else match firstInner h w cs with
    | none => .ring
    | some i => .hole (i : Int)
def NewAns (C : Ad) : Ans → Hp → V → Hp → Prop
  | .ring => NewI C.cRing []
  | .split x y => NewI C.cSplit (flds2 (.int x) (.int y))
  | .hole x => NewI C.cHole (flds1 (.int x))
theorem NewAns.back {C : Ad} {a : Ans} {H0 H1 H2 : Hp} {v : V} (e : Ex H0 H1) (h : NewAns C a H1 v H2) : NewAns C a H0 v H2 := by
  cases a <;> exact NewI.back e h
theorem NewAns.on {C : Ad} {a : Ans} {H1 H2 H3 : Hp} {v : V} (e : Ex H2 H3) (h : NewAns C a H1 v H2) : NewAns C a H1 v H3 := by
  cases a <;> exact NewI.on e h
/-- a door with a grid and cells: refused, or R -/
def DoorGC (K : PySem.W.Frag) (C : Ad) (v u : V) (H : Hp) (Q : VK) (E : XK) (ok : Addr → Nat → Nat → List Int → Prop) : Prop :=
  (BadG K H v ∧ RetE C.cBadGrid H E) ∨
   (∃ g h w, v = .ref g ∧ SqT K H g [.int ((h : Nat) : Int), .int ((w : Nat) : Int)] ∧ GOk h w ∧ ((BadC K H ((h : Int) * w) u ∧ RetE C.cBadCells H E) ∨
     ∃ c cs, u = .ref c ∧ SqL K H c (cs.map V.int) ∧ COk h w cs ∧ ok c h w cs))
theorem BadC.mono {K : PySem.W.Frag} {H H' : Hp} {m : Int} {v : V} (e : Ex H H') (hb : BadC K H m v) : BadC K H' m v := by
  rcases hb with ⟨n, hk, hn⟩ | ⟨a, xs, ds, rfl, h1, h2, h3⟩
  · exact .inl ⟨n, hk.mono e, hn⟩
  · exact .inr ⟨a, xs, ds, rfl, ex_l e h1, DpAll.mono e h2, h3⟩
theorem BadG.mono {K : PySem.W.Frag} {H H' : Hp} {v : V} (e : Ex H H') (hb : BadG K H v) : BadG K H' v := by
  rcases hb with ⟨n, hk, hn⟩ | ⟨a, xs, rfl, h1, h2, h3, h4⟩
  · exact .inl ⟨n, hk.mono e, hn⟩
  · exact .inr ⟨a, xs, rfl, ex_t e h1, h2, fun x hx => (h3 x hx).imp fun n z => z.mono e, h4⟩
/-- the two checks ahead of a door's body -/
theorem q_checks {K : PySem.W.Frag} {C : Ad} {σ : L2.St} {H : Hp} {E : XK} {D : Ends} {tz : TS} {v u : V} {Q : VK} {ok : Addr → Nat → Nat → List Int → Prop} (h0 : σ[0]? = some (some v)) (h1 : σ[1]? = some (some u)) (h : DoorGC K C v u H Q E ok)
    (k : ∀ g h w c cs H1, v = .ref g → u = .ref c → Ex H H1 → SqT K H1 g [.int ((h : Nat) : Int), .int ((w : Nat) : Int)] → GOk h w → SqL K H1 c (cs.map V.int) → COk h w cs → ok c h w cs → tz D σ H1) :
    tSeq (tDrop (tCall (sp_check_grid K C) [] E (tCons (tVar 0) tNil))) (tSeq (tDrop (tCall (sp_check_cells K C) [] E (tCons (tVar 0) (tCons (tVar 1) tNil)))) tz) D σ H := by
  rcases h with ⟨hb, q⟩ | ⟨g, h, w, rfl, hs, gk, h⟩
  · exact ⟨v, h0, v, rfl, .inr ⟨hb, q⟩⟩
  · refine q_drop (ev_check_grid (ea_cons (ev_var h0) ea_nil) hs gk) fun H1 e1 => ?_
    rcases h with ⟨hb, q⟩ | ⟨c, cs, rfl, hc, ck, hok⟩
    · exact ⟨_, h0, u, h1, g, h, w, u, rfl, ex_t e1 hs, gk, .inr ⟨hb.mono e1, fun H2 e2 => q H2 (e1.trans e2)⟩⟩
    · refine q_drop (ev_check_cells (ea_cons (ev_var h0) (ea_cons (ev_var h1) ea_nil)) (ex_t e1 hs) gk (ex_l e1 hc) ck) fun H2 e2 => ?_
      exact k g h w c cs H2 rfl rfl (e1.trans e2) (ex_t (e1.trans e2) hs) gk (ex_l (e1.trans e2) hc) ck hok
def sp_judged (K : PySem.W.Frag) (C : Ad) : Sp := fun vs H Q E => ∃ v u, vs = [v, u] ∧ DoorGC K C v u H Q E fun _ h w cs => RetP (NewAns C (judgedM h w cs)) H Q
theorem ep_judged {K : PySem.W.Frag} {C : Ad} {σ : L2.St} {H : Hp} {ta tb : TE} {E : XK} {h w : Nat} {cs : List Int} (ha : EvST K ta σ H [.int (h : Int), .int (w : Int)]) (gk : GOk h w) (hc : EvS K tb σ H (cs.map V.int)) (ck : COk h w cs) :
    EvP (tCall (sp_judged K C) [] E (tCons ta (tCons tb tNil))) σ H (NewAns C (judgedM h w cs)) := fun H1 e Q q =>
  ha H1 e _ fun g H2 e2 hg => hc H2 (e.trans e2) _ fun c H3 e3 hc3 => ⟨_, _, rfl, .inr ⟨g, h, w, rfl, ex_t e3 hg, gk, .inr ⟨c, cs, rfl, hc3, ck, fun v H4 e4 z => q v H4 ((e2.trans e3).trans e4) (z.back (e2.trans e3))⟩⟩⟩
def t_judged (K : PySem.W.Frag) (C : Ad) (E : XK) : TS := (tSeq (tDrop (tCall (sp_check_grid K C) [] E (tCons (tVar 0) tNil)))
      (tSeq (tDrop (tCall (sp_check_cells K C) [] E (tCons (tVar 0) (tCons (tVar 1) tNil))))
      (tSeq (tAsg (tCall (sp_spread K) [] E0 (tCons (tVar 0) (tCons (tOp (rIxL K) (tVar 1) (tC (.int 0))) (tCons (tVar 1) tNil)))) (gName 2))
      (tSeq (tIfS (tTest (tOp oLt (tCB (rLenS K) (tCons (tVar 2) tNil)) (tCB (rLenS K) (tCons (tVar 1) tNil)))) (tRet (tMake C.cSplit (sp_Split_init K C) [] E0 (tCons (tOp (rIxL K) (tVar 1) (tC (.int 0))) (tCons (tOp (rIxL K) (tLc (iList K (tVar 1)) (gName 4) (tTest (tOp (rIn K true) (tVar 4) (tVar 2))) (tVar 4) [4]) (tC (.int 0))) tNil)))) tNext)
      (tSeq (tAsg (tCall (sp_first_inner K) [] E0 (tCons (tVar 0) (tCons (tVar 1) tNil))) (gName 3))
      (tRet (tIf (tTest (tOp rIsN (tVar 3) (tC .non))) (tBare C.cRing) (tMake C.cHole (sp_Hole_init K C) [] E0 (tCons (tVar 3) tNil)))))))))
theorem rising_nodup {cs : List Int} (h : Rising cs) : cs.Nodup := List.Pairwise.imp (fun a => by omega) h
theorem headD_of {α : Type} {l : List α} (d : α) (h : l ≠ []) : l[0]? = some (l.headD d) := by
  cases l with
  | nil => exact absurd rfl h
  | cons a r => rfl
theorem ep_if {σ : L2.St} {H : Hp} {t : TT} {ta tb : TE} {b : Bool} {R : Hp → V → Hp → Prop} (hR : ∀ {H0 H1 v H2}, Ex H0 H1 → R H1 v H2 → R H0 v H2) (h : EvT t σ H b) (h1 : b = true → EvP ta σ H R) (h2 : b = false → EvP tb σ H R) : EvP (tIf t ta tb) σ H R := fun H1 e Q q => h H1 e _ fun H2 e2 => by
  cases b with
  | true =>
    show ta σ H2 Q
    exact h1 rfl H2 (e.trans e2) Q fun v H3 e3 z => q v H3 (e2.trans e3) (hR e2 z)
  | false =>
    show tb σ H2 Q
    exact h2 rfl H2 (e.trans e2) Q fun v H3 e3 z => q v H3 (e2.trans e3) (hR e2 z)
theorem pure_judged {K : PySem.W.Frag} {C : Ad} {vs : List V} {H : Hp} {Q : VK} {E : XK} {D : Ends} (hD : D.rt = Q) (h : sp_judged K C vs H Q E) : t_judged K C E D (start ["grid", "cells", "near", "inner", "cell"] vs) H := by
  obtain ⟨v, u, rfl, hd⟩ := h
  subst hD
  change t_judged K C E D [some v, some u, none, none, none] H
  refine q_checks rfl rfl hd fun g h w c cs H1 hv hu e1 hs gk hc ck q => ?_
  subst hv hu
  clear hd
  have cl := cok_len gk ck
  have it : Ev (tOp (rIxL K) (tVar 1) (tC (.int 0))) [some (.ref g), some (.ref c), none, none, none] H1 (.int (cs.headD 0)) := ev_ixS (es_of (ev_var rfl) hc) ev_c (at_first ck.1)
  refine q_asgL (i := 2) (el_spread (E := E0) (K := K) (ta := tCons (tVar 0) (tCons (tOp (rIxL K) (tVar 1) (tC (.int 0))) (tCons (tVar 1) tNil))) (ea_cons (ev_var rfl) (ea_cons it (ea_cons (ev_var rfl) ea_nil))) hs gk hc (by omega)) fun n H2 hn e2 h2 => ?_
  have hc2 := ex_l e2 hc
  have hs2 := ex_t e2 hs
  have so := spread_ok h (w := w) gk.2.2.1 (cs.headD 0) cs
  have jm : judgedM h w cs = if (spread h w (cs.headD 0) cs).length < cs.length then .split (cs.headD 0) ((cs.filter fun c => !decide (c ∈ spread h w (cs.headD 0) cs)).headD 0)
    else match firstInner h w cs with | none => .ring | some i => .hole (i : Int) := rfl
  generalize spread h w (cs.headD 0) cs = near at *
  have t := et_test (ev_op (r := oLt) (σ := [some (.ref g), some (.ref c), some (.ref n), none, none]) (H := H2) (ev_lenS (K := K) (ta := tVar 2) (es_of (ev_var rfl) (sq_of h2))) (ev_lenS (K := K) (ta := tVar 1) (es_of (ev_var rfl) hc2)) rv_I0)
  rw [List.length_map, List.length_map] at t
  refine q_when t (fun hb H3 e3 => ?_) (fun hb H3 e3 => ?_)
  · have hlt : near.length < cs.length := by have := of_decide_eq_true hb; omega
    rw [if_pos hlt] at jm
    have ne : (cs.filter fun c => !decide (c ∈ near)) ≠ [] := by
      intro z
      have all := List.filter_eq_nil_iff.mp z
      have : ∀ o ∈ cs, o ∈ near := fun o ho => by simpa using all o ho
      have := nodup_sub (rising_nodup ck.2.2) this
      omega
    have hc3 := ex_l e3 hc2
    have l := el_lcI (K := K) (σ := [some (.ref g), some (.ref c), some (.ref n), none, none]) (H := H3) (ns := cs) (tl := tVar 1) (t := tTest (tOp (rIn K true) (tVar 4) (tVar 2))) (te := tVar 4) (j := 4) (vs := [4]) (fun o => !decide (o ∈ near)) V.int (es_of (ev_var rfl) hc3) (by omega) (fun x => rfl)
      (fun n' H4 e4 _ => et_test (ev_notIn (ev_var rfl) (es_of (ev_var rfl) (sq_of (e4 _ _ (e3 _ _ h2)))))) (fun n' H4 e4 _ _ => ev_var rfl)
    refine s_retP (ep_Split (K := K) (C := C) (ea_cons (ev_ixS (es_of (ev_var rfl) hc3) ev_c (at_first ck.1)) (ea_cons (ev_ixS (es_new l) ev_c (at_first ne)) ea_nil))) fun v H4 e4 z => ?_
    refine q v H4 (((e1.trans e2).trans e3).trans e4) ?_
    rw [jm]
    exact NewI.back ((e1.trans e2).trans e3) z
  · have hlt : ¬ near.length < cs.length := by have := of_decide_eq_false hb; omega
    rw [if_neg hlt] at jm
    have hs3 := ex_t e3 hs2
    have hc3 := ex_l e3 hc2
    refine q_asg (i := 3) (ev_first_inner (K := K) (ea_cons (ev_var rfl) (ea_cons (ev_var rfl) ea_nil)) hs3 gk hc3) fun H4 e4 => ?_
    refine s_retP (R := NewAns C (judgedM h w cs)) (ep_if (b := (firstInner h w cs).isNone) (fun e z => z.back e) (et_is (et_test (ev_op (ev_var rfl) ev_c rv_isN)) (opt_is _)) (fun hb' => ?_) (fun hb' => ?_)) fun v H5 e5 z => q v H5 ((((e1.trans e2).trans e3).trans e4).trans e5) (z.back (((e1.trans e2).trans e3).trans e4))
    · cases hf : firstInner h w cs with
      | none =>
        rw [hf] at jm
        rw [jm]
        exact ep_bare
      | some i => rw [hf] at hb'; cases hb'
    · cases hf : firstInner h w cs with
      | none => rw [hf] at hb'; cases hb'
      | some i =>
        rw [hf] at jm
        rw [jm]
        exact ep_Hole (ea_cons (ev_var rfl) ea_nil)
/-! ### check_few, rings -/
def DoorF (K : PySem.W.Frag) (C : Ad) (v : V) (H : Hp) (E : XK) (ok : Addr → Nat → Nat → Prop) : Prop :=
  (BadG K H v ∧ RetE C.cBadGrid H E) ∨ (∃ g h w, v = .ref g ∧ SqT K H g [.int ((h : Nat) : Int), .int ((w : Nat) : Int)] ∧ GOk h w ∧ ((9 < h * w ∧ RetE C.cBadGrid H E) ∨ (h * w ≤ 9 ∧ ok g h w)))
def sp_check_few (K : PySem.W.Frag) (C : Ad) : Sp := fun vs H Q E => ∃ v, vs = [v] ∧ DoorF K C v H E fun _ _ _ => RetV .non H Q
def t_check_few (K : PySem.W.Frag) (C : Ad) (E : XK) : TS := (tSeq (tDrop (tCall (sp_check_grid K C) [] E (tCons (tVar 0) tNil)))
      (tIfS (tTest (tOp oGt (tOp oMul (tOp (rIxT K) (tVar 0) (tC (.int 0))) (tOp (rIxT K) (tVar 0) (tC (.int 1)))) (tC (.int 9)))) (tRaise E (.ref C.cBadGrid)) tNext))
theorem pure_check_few {K : PySem.W.Frag} {C : Ad} {vs : List V} {H : Hp} {Q : VK} {E : XK} {D : Ends} (hD : D.nx = fun _ H' => Q .non H') (h : sp_check_few K C vs H Q E) : t_check_few K C E D (start ["grid"] vs) H := by
  obtain ⟨v, rfl, h⟩ := h
  change t_check_few K C E D [some v] H
  rcases h with ⟨hb, q⟩ | ⟨g, h, w, rfl, hs, gk, hk⟩
  · exact ⟨v, rfl, v, rfl, .inr ⟨hb, q⟩⟩
  · refine q_drop (ev_check_grid (ea_cons (ev_var rfl) ea_nil) hs gk) fun H1 e1 => ?_
    have gb := gk
    obtain ⟨g1, g2, g3, g4⟩ := gb
    have hs1 := ex_t e1 hs
    have cast : ((h * w : Nat) : Int) = (h : Int) * w := Int.natCast_mul h w
    have t : EvT (tTest (tOp oGt (tOp oMul (tOp (rIxT K) (tVar 0) (tC (.int 0))) (tOp (rIxT K) (tVar 0) (tC (.int 1)))) (tC (.int 9)))) [some (.ref g)] H1 (decide ((9 : Int) < (h : Int) * w)) := by walk_at "et"
    rcases hk with ⟨hb, q⟩ | ⟨hb, q⟩
    · exact s_when t (fun _ H2 e2 => q H2 (e1.trans e2)) (fun z => by have := of_decide_eq_false z; omega)
    · refine s_when t (fun z => by have := of_decide_eq_true z; omega) (fun _ H2 e2 => ?_)
      rw [hD]
      exact q H2 (e1.trans e2)
def sp_rings (K : PySem.W.Frag) (C : Ad) : Sp := fun vs H Q E => ∃ v, vs = [v] ∧ DoorF K C v H E fun _ h w => RetP (fun H1 v H2 => NewLL H1 v H2 (ints2 (allRings h w))) H Q
theorem ep_rings {K : PySem.W.Frag} {C : Ad} {σ : L2.St} {H : Hp} {ta : TE} {E : XK} {h w : Nat} (ha : EvST K ta σ H [.int (h : Int), .int (w : Int)]) (gk : GOk h w) (hm : h * w ≤ 9) : EvP (tCall (sp_rings K C) [] E (tCons ta tNil)) σ H (fun H1 v H2 => NewLL H1 v H2 (ints2 (allRings h w))) := fun H1 e Q q =>
  ha H1 e _ fun g H2 e2 hg => ⟨_, rfl, .inr ⟨g, h, w, rfl, hg, gk, .inr ⟨hm, fun v H3 e3 z => q v H3 (e2.trans e3) (z.back e2)⟩⟩⟩
def t_rings (K : PySem.W.Frag) (C : Ad) (E : XK) : TS := (tSeq (tDrop (tCall (sp_check_few K C) [] E (tCons (tVar 0) tNil)))
      (tRet (tCall (sp_all_rings K) [] E0 (tCons (tVar 0) tNil))))
theorem pure_rings {K : PySem.W.Frag} {C : Ad} {vs : List V} {H : Hp} {Q : VK} {E : XK} {D : Ends} (hD : D.rt = Q) (h : sp_rings K C vs H Q E) : t_rings K C E D (start ["grid"] vs) H := by
  obtain ⟨v, rfl, h⟩ := h
  subst hD
  change t_rings K C E D [some v] H
  rcases h with ⟨hb, q⟩ | ⟨g, h, w, rfl, hs, gk, ⟨hb, q⟩ | ⟨hm, q⟩⟩
  · exact ⟨v, rfl, v, rfl, .inl ⟨hb, q⟩⟩
  · exact ⟨_, rfl, _, rfl, .inr ⟨g, h, w, rfl, hs, gk, .inl ⟨hb, q⟩⟩⟩
  · refine ⟨_, rfl, _, rfl, .inr ⟨g, h, w, rfl, hs, gk, .inr ⟨hm, fun H1 e1 => ?_⟩⟩⟩
    exact s_retP (ep_all_rings (K := K) (est_of (ev_var rfl) (ex_t e1 hs)) gk hm) fun v H2 e2 z => q v H2 (e1.trans e2) (z.back e1)
/-! ### check_clues -/
/-- what stands in a list of rows -/
inductive Row
  | other
  | row (ys : List V)
def RowIs (K : PySem.W.Frag) (H : Hp) (x : V) : Row → Prop
  | .other => ∃ n, Known K H x n ∧ n ≠ "list"
  | .row ys => ∃ r, x = .ref r ∧ SqL K H r ys ∧ ys.length ≤ 1000 ∧ ∀ y ∈ ys, ∃ n, Known K H y n
theorem RowIs.mono {K : PySem.W.Frag} {H H' : Hp} {x : V} {r : Row} (e : Ex H H') (h : RowIs K H x r) : RowIs K H' x r := by
  cases r with
  | other => exact h.imp fun n z => ⟨z.1.mono e, z.2⟩
  | row ys =>
    obtain ⟨r, rfl, h1, h2, h3⟩ := h
    exact ⟨r, rfl, ex_l e h1, h2, fun y hy => (h3 y hy).imp fun n z => z.mono e⟩
def Row.isRow : Row → Bool
  | .other => false
  | .row _ => true
def Row.len : Row → Nat
  | .other => 0
  | .row ys => ys.length
def Row.fine : Row → Bool
  | .other => false
  | .row ys => ys.all (inRange (-1) 4)
def cluesChk (rows : List Row) : Bool :=
  ((decide (1 ≤ rows.length) && decide (rows.length ≤ 6)) && rows.all Row.isRow) &&
  (((decide (1 ≤ (rows.headD .other).len) && decide ((rows.headD .other).len ≤ 6)) && (decide (rows.length * (rows.headD .other).len ≤ 9) && rows.all fun r => decide (r.len = (rows.headD .other).len))) && rows.all Row.fine)
def DoorC (K : PySem.W.Frag) (C : Ad) (v : V) (H : Hp) (E : XK) (ok : Addr → List Row → Prop) : Prop :=
  ((∃ n, Known K H v n ∧ n ≠ "list") ∧ RetE C.cBadClues H E) ∨ ∃ a xs rows, v = .ref a ∧ SqL K H a xs ∧ xs.length ≤ 1000 ∧ Paired (RowIs K H) xs rows ∧ ((cluesChk rows = false ∧ RetE C.cBadClues H E) ∨ (cluesChk rows = true ∧ ok a rows))
def sp_check_clues (K : PySem.W.Frag) (C : Ad) : Sp := fun vs H Q E => ∃ v, vs = [v] ∧ DoorC K C v H E fun _ _ => RetV .non H Q
def t_check_clues (K : PySem.W.Frag) (C : Ad) (E : XK) : TS := (tSeq (tIfS (tOr (tNot (tB (tCB (rIsi K) (tCons (tVar 0) (tCons (tC (.ty "list")) tNil))))) (tOr (tNot (tTest (tChain oLe oLe (tC (.int 1)) (tCB (rLenS K) (tCons (tVar 0) tNil)) (tC (.int 6))))) (tNot (tB (tCB (rAll K) (tCons (tLc (iList K (tVar 0)) (gName 2) tYes (tCB (rIsi K) (tCons (tVar 2) (tCons (tC (.ty "list")) tNil))) [2]) tNil)))))) (tRaise E (.ref C.cBadClues)) tNext)
      (tSeq (tAsg (tCB (rLenS K) (tCons (tOp (rIxL K) (tVar 0) (tC (.int 0))) tNil)) (gName 1))
      (tSeq (tIfS (tOr (tNot (tTest (tChain oLe oLe (tC (.int 1)) (tVar 1) (tC (.int 6))))) (tOr (tTest (tOp oGt (tOp oMul (tCB (rLenS K) (tCons (tVar 0) tNil)) (tVar 1)) (tC (.int 9)))) (tNot (tB (tCB (rAll K) (tCons (tLc (iList K (tVar 0)) (gName 2) tYes (tOp rEq (tCB (rLenS K) (tCons (tVar 2) tNil)) (tVar 1)) [2]) tNil)))))) (tRaise E (.ref C.cBadClues)) tNext)
      (tIfS (tNot (tB (tCB (rAll K) (tCons (tLc (iList K (tVar 0)) (gName 2) tYes (tCB (rAll K) (tCons (tLc (iList K (tVar 2)) (gName 3) tYes (tAndV (tCall (sp_is_whole K) [] E0 (tCons (tVar 3) tNil)) (tChain oLe oLe (tUn oNeg (tC (.int 1))) (tVar 3) (tC (.int 4)))) [3]) tNil)) [2]) tNil)))) (tRaise E (.ref C.cBadClues)) tNext))))
/-- all([t for row in clues]), t told by the row -/
theorem ev_allRows {K : PySem.W.Frag} {σ : L2.St} {H : Hp} {te tl : TE} {a : Addr} {xs : List V} {rows : List Row} {j : Nat} {vs : List Nat} (f : Row → Bool) (h : Ev tl σ H (.ref a)) (hs : SqL K H a xs) (hl : xs.length ≤ 1000) (hp : Paired (RowIs K H) xs rows) (hw : ∀ x, wipe ((wipe σ vs).set j (some x)) vs = wipe σ vs)
    (ht : ∀ (x : V) (r : Row) H1, Ex H H1 → r ∈ rows → RowIs K H1 x r → Ev te ((wipe σ vs).set j (some x)) H1 (.bl (f r))) : Ev (tCB (rAll K) (tCons (tLc (iList K tl) (gName j) tYes te vs) tNil)) σ H (.bl (rows.all f)) := by
  have w := el_lcL (K := K) (t := tYes) (te := te) (j := j) (vs := vs) (fun _ => true) (fun i => V.bl (f (rows.getD i .other))) h hs (by omega) hw (fun _ _ _ _ _ => et_yes) (fun i x H1 e1 hx _ => by
    obtain ⟨r, hr, hf⟩ := paired_get hp hx
    have e : rows.getD i .other = r := by rw [List.getD_eq_getElem?_getD, hr]; rfl
    show Ev te _ H1 (V.bl (f (rows.getD i .other)))
    rw [e]
    exact ht x r H1 e1 (List.mem_of_getElem? hr) (hf.mono e1))
  have e : given xs.length (fun _ => true) (fun i => V.bl (f (rows.getD i .other))) = (rows.map f).map V.bl := by
    unfold given
    rw [filter_yes, Paired.length hp, List.map_map]
    refine List.ext_getElem? fun i => ?_
    rw [List.getElem?_map, List.getElem?_map]
    by_cases hi : i < rows.length
    · rw [List.getElem?_range hi, List.getElem?_eq_getElem hi]
      simp [List.getD_eq_getElem?_getD, hi]
    · rw [List.getElem?_eq_none (by rw [List.length_range]; omega), List.getElem?_eq_none (by omega)]
      rfl
  rw [e] at w
  refine ev_is (ev_allS (K := K) (es_new (K := K) w)) ?_
  rw [List.all_map]
  rfl
theorem row_list {K : PySem.W.Frag} {H : Hp} {x : V} {r : Row} (h : RowIs K H x r) : ∃ n, Known K H x n ∧ (n == "list") = r.isRow := by
  cases r with
  | other =>
    obtain ⟨n, hk, hn⟩ := h
    exact ⟨n, hk, by simpa [Row.isRow] using hn⟩
  | row ys =>
    obtain ⟨r, rfl, h1, _⟩ := h
    exact ⟨"list", ⟨ty_list h1, by decide⟩, rfl⟩
theorem row_of {K : PySem.W.Frag} {H : Hp} {x : V} {r : Row} (h : RowIs K H x r) (hr : r.isRow = true) : ∃ q ys, r = .row ys ∧ x = .ref q ∧ SqL K H q ys ∧ ys.length ≤ 1000 ∧ ∀ y ∈ ys, ∃ n, Known K H y n := by
  cases r with
  | other => cases hr
  | row ys =>
    obtain ⟨q, rfl, h1, h2, h3⟩ := h
    exact ⟨q, ys, rfl, rfl, h1, h2, h3⟩
theorem ev_fine {K : PySem.W.Frag} {σ : L2.St} {H : Hp} {q : Addr} {ys : List V} {i j : Nat} {vs : List Nat} (hi : σ[i]? = some (some (.ref q))) (hs : SqL K H q ys) (hl : ys.length ≤ 1000) (hk : ∀ y ∈ ys, ∃ n, Known K H y n) (hw : ∀ x, wipe ((wipe σ vs).set j (some x)) vs = wipe σ vs) (hj : ∀ x : V, ((wipe σ vs).set j (some x))[j]? = some (some x)) :
    Ev (tCB (rAll K) (tCons (tLc (iList K (tVar i)) (gName j) tYes (tAndV (tCall (sp_is_whole K) [] E0 (tCons (tVar j) tNil)) (tChain oLe oLe (tUn oNeg (tC (.int 1))) (tVar j) (tC (.int 4)))) vs) tNil)) σ H (.bl (ys.all (inRange (-1) 4))) := by
  have e : (((ys.filter fun _ => true).map fun x => V.bl (inRange (-1) 4 x))) = (ys.map (inRange (-1) 4)).map V.bl := by
    rw [filter_yes, List.map_map]
    rfl
  have w := el_lc (K := K) (σ := σ) (H := H) (xs := ys) (tl := tVar i) (t := tYes) (te := tAndV (tCall (sp_is_whole K) [] E0 (tCons (tVar j) tNil)) (tChain oLe oLe (tUn oNeg (tC (.int 1))) (tVar j) (tC (.int 4)))) (j := j) (vs := vs) (fun _ => true) (fun x => V.bl (inRange (-1) 4 x)) (es_of (ev_var hi) hs) (by omega) hw (fun x H1 e1 hx => et_yes) (fun x H1 e1 hx _ => by
    obtain ⟨n, hn⟩ := hk x hx
    have r : inRange (-1) 4 x = (isInt x && inRange (-1) 4 x) := by cases x <;> rfl
    rw [r]
    refine ev_andV (ev_is_whole (ea_cons (ev_var (hj _)) ea_nil) (hn.mono e1)) (fun hi => ?_)
    obtain ⟨m, rfl⟩ := isInt_of hi
    exact ev_chain (ev_un ev_c ru_neg) (ev_var (hj _)) rv_I0 (fun _ => ev_c) (fun _ => rv_I0))
  rw [e] at w
  have z := ev_allS (K := K) (es_new (K := K) w)
  rw [List.all_map] at z
  exact z
theorem pure_check_clues {K : PySem.W.Frag} {C : Ad} {vs : List V} {H : Hp} {Q : VK} {E : XK} {D : Ends} (hD : D.nx = fun _ H' => Q .non H') (h : sp_check_clues K C vs H Q E) : t_check_clues K C E D (start ["clues", "wide", "row", "clue"] vs) H := by
  obtain ⟨v, rfl, h⟩ := h
  change t_check_clues K C E D [some v, none, none, none] H
  rcases h with ⟨⟨n, hk, hn⟩, q⟩ | ⟨a, xs, rows, rfl, hs, hl, hp, h⟩
  · have e : (n == "list") = false := by simpa using hn
    refine q_when (b := true) (et_is (et_or (b := true) (et_not (et_B (ev_isiList (ev_var rfl) hk))) (fun z => ?_)) (by rw [e]; rfl)) (fun _ H1 e1 => q H1 e1) (fun z => nomatch z)
    rw [e] at z
    cases z
  · have pl := Paired.length hp
    have t1 := et_or (et_not (et_B (ev_isiList (K := K) (σ := [some (.ref a), none, none, none]) (H := H) (ta := tVar 0) (ev_var rfl) ⟨ty_list hs, by decide⟩))) (fun _ => et_or (et_not (et_test (ev_chain (r := oLe) (r' := oLe) (x := .int 1) (z := .int 6) ev_c (ev_lenS (K := K) (ta := tVar 0) (es_of (ev_var rfl) hs)) rv_I0 (fun _ => ev_c) (fun _ => rv_I0)))) (fun _ => et_not (et_B (ev_allRows (K := K) (j := 2) (vs := [2]) (te := tCB (rIsi K) (tCons (tVar 2) (tCons (tC (.ty "list")) tNil))) Row.isRow (ev_var (i := 0) rfl) hs hl hp (fun _ => rfl) (fun x r H1 e1 hr hx => by
      obtain ⟨n, hk, hn⟩ := row_list hx
      exact ev_is (ev_isiList (ev_var rfl) hk) (by rw [hn]))))))
    have hbad : cluesChk rows = false → RetE C.cBadClues H E := fun z => by
      rcases h with ⟨_, q⟩ | ⟨hc, _⟩
      · exact q
      · rw [hc] at z; cases z
    refine q_when t1 (fun hb H1 e1 => hbad ?_ H1 e1) (fun hb H1 e1 => ?_)
    · have hb' : ((decide (1 ≤ rows.length) && decide (rows.length ≤ 6)) && rows.all Row.isRow) = false := by
        rw [pl] at hb
        simp only [beq_self_eq_true, Bool.not_true, Bool.false_or, Bool.or_eq_true, Bool.not_eq_true'] at hb
        rcases hb with z | z
        · have : (decide (1 ≤ rows.length) && decide (rows.length ≤ 6)) = false := by
            rw [Bool.and_eq_false_iff, decide_eq_false_iff_not, decide_eq_false_iff_not] at z ⊢
            omega
          rw [this, Bool.false_and]
        · rw [z, Bool.and_false]
      unfold cluesChk
      rw [hb', Bool.false_and]
    · have hb' : ((decide (1 ≤ rows.length) && decide (rows.length ≤ 6)) && rows.all Row.isRow) = true := by
        rw [pl] at hb
        simp only [beq_self_eq_true, Bool.not_true, Bool.false_or, Bool.or_eq_false_iff, Bool.not_eq_false'] at hb
        obtain ⟨z, z2⟩ := hb
        rw [z2, Bool.and_true]
        rw [Bool.and_eq_true, decide_eq_true_eq, decide_eq_true_eq] at z ⊢
        omega
      have cc : cluesChk rows = (((decide (1 ≤ (rows.headD .other).len) && decide ((rows.headD .other).len ≤ 6)) && (decide (rows.length * (rows.headD .other).len ≤ 9) && rows.all fun r => decide (r.len = (rows.headD .other).len))) && rows.all Row.fine) := by
        unfold cluesChk
        rw [hb', Bool.true_and]
      have hrows : ∀ r ∈ rows, r.isRow = true := List.all_eq_true.mp (Bool.and_eq_true _ _ ▸ hb').2
      have hlen : 1 ≤ rows.length ∧ rows.length ≤ 6 := by
        have := (Bool.and_eq_true _ _ ▸ hb').1
        rw [Bool.and_eq_true, decide_eq_true_eq, decide_eq_true_eq] at this
        exact this
      have hs1 := ex_l e1 hs
      have hp1 : Paired (RowIs K H1) xs rows := Paired.mapP hp fun x r z => z.mono e1
      have w0 : Ev (tCB (rLenS K) (tCons (tOp (rIxL K) (tVar 0) (tC (.int 0))) tNil)) [some (.ref a), none, none, none] H1 (.int ((rows.headD .other).len : Int)) := by
        cases hp1 with
        | nil => simp at hlen
        | cons h3 h4 =>
          obtain ⟨q, ys, rfl, rfl, h5, _⟩ := row_of h3 (hrows _ List.mem_cons_self)
          exact ev_lenS (K := K) (es_of (ev_ixS (es_of (ev_var rfl) hs1) ev_c (atI_nat (j := 0) rfl)) h5)
      refine q_asg (i := 1) w0 fun H2 e2 => ?_
      have hs2 := ex_l e2 hs1
      have hp2 : Paired (RowIs K H2) xs rows := Paired.mapP hp1 fun x r z => z.mono e2
      have wl : (rows.headD .other).len ≤ 1000 := by
        cases hp1 with
        | nil => simp at hlen
        | cons h3 h4 =>
          obtain ⟨q, ys, rfl, rfl, h5, h6, _⟩ := row_of h3 (hrows _ List.mem_cons_self)
          exact h6
      generalize (rows.headD .other).len = wd at *
      have t2 := et_or (et_not (et_test (ev_chain (r := oLe) (r' := oLe) (σ := [some (.ref a), some (.int (wd : Int)), none, none]) (H := H2) (x := .int 1) (z := .int 6) ev_c (ev_var (i := 1) rfl) rv_I0 (fun _ => ev_c) (fun _ => rv_I0)))) (fun _ => et_or (et_test (ev_op (r := oGt) (y := .int 9) (ev_op (r := oMul) (y := .int (wd : Int)) (ev_lenS (K := K) (ta := tVar 0) (es_of (ev_var rfl) hs2)) (ev_var (i := 1) rfl) (rv_I (.inl ⟨by omega, by omega⟩))) ev_c rv_I0)) (fun _ => et_not (et_B (ev_allRows (K := K) (j := 2) (vs := [2]) (te := tOp rEq (tCB (rLenS K) (tCons (tVar 2) tNil)) (tVar 1)) (fun r => decide (r.len = wd)) (ev_var (i := 0) rfl) hs2 hl hp2 (fun _ => rfl) (fun x r H3 e3 hr hx => by
        obtain ⟨q, ys, rfl, rfl, h5, _⟩ := row_of hx (hrows r hr)
        refine ev_is (ev_op (x := .int (ys.length : Int)) (y := .int (wd : Int)) (ev_lenS (K := K) (es_of (ev_var rfl) h5)) (ev_var rfl) (rv_eq rfl)) ?_
        show V.bl (decide (V.int (ys.length : Int) = V.int (wd : Int))) = V.bl (decide (ys.length = wd))
        congr 1
        rw [Bool.eq_iff_iff, decide_eq_true_eq, decide_eq_true_eq, V.int.injEq]
        omega)))))
      have cast : ((xs.length : Int) * (wd : Int)) = ((rows.length * wd : Nat) : Int) := by rw [pl, Int.natCast_mul]
      refine q_when t2 (fun hb2 H3 e3 => hbad ?_ H3 ((e1.trans e2).trans e3)) (fun hb2 H3 e3 => ?_)
      · rw [cc]
        rw [cast] at hb2
        have : ((decide (1 ≤ wd) && decide (wd ≤ 6)) && (decide (rows.length * wd ≤ 9) && rows.all fun r => decide (r.len = wd))) = false := by
          simp only [Bool.or_eq_true, Bool.not_eq_true', decide_eq_true_eq] at hb2
          rcases hb2 with z | z | z
          · have : (decide (1 ≤ wd) && decide (wd ≤ 6)) = false := by
              rw [Bool.and_eq_false_iff, decide_eq_false_iff_not, decide_eq_false_iff_not] at z ⊢
              omega
            rw [this, Bool.false_and]
          · have : decide (rows.length * wd ≤ 9) = false := decide_eq_false (by omega)
            rw [this, Bool.false_and, Bool.and_false]
          · rw [z, Bool.and_false, Bool.and_false]
        rw [this, Bool.false_and]
      · have c2 : ((decide (1 ≤ wd) && decide (wd ≤ 6)) && (decide (rows.length * wd ≤ 9) && rows.all fun r => decide (r.len = wd))) = true := by
          rw [cast] at hb2
          simp only [Bool.or_eq_false_iff, Bool.not_eq_false', decide_eq_false_iff_not] at hb2
          obtain ⟨z1, z2, z3⟩ := hb2
          rw [Bool.and_eq_true, decide_eq_true_eq, decide_eq_true_eq] at z1
          rw [z3, Bool.and_true, Bool.and_eq_true, Bool.and_eq_true, decide_eq_true_eq, decide_eq_true_eq, decide_eq_true_eq]
          omega
        rw [c2, Bool.true_and] at cc
        have hs3 := ex_l e3 hs2
        have hp3 : Paired (RowIs K H3) xs rows := Paired.mapP hp2 fun x r z => z.mono e3
        have t3 := et_not (et_B (ev_allRows (K := K) (σ := [some (.ref a), some (.int (wd : Int)), none, none]) (j := 2) (vs := [2]) (te := tCB (rAll K) (tCons (tLc (iList K (tVar 2)) (gName 3) tYes (tAndV (tCall (sp_is_whole K) [] E0 (tCons (tVar 3) tNil)) (tChain oLe oLe (tUn oNeg (tC (.int 1))) (tVar 3) (tC (.int 4)))) [3]) tNil)) Row.fine (ev_var (i := 0) rfl) hs3 hl hp3 (fun _ => rfl) (fun x r H4 e4 hr hx => by
          obtain ⟨q, ys, rfl, rfl, h5, h6, h7⟩ := row_of hx (hrows r hr)
          exact ev_fine rfl h5 h6 h7 (fun _ => rfl) (fun _ => rfl))))
        refine s_when t3 (fun hb3 H4 e4 => hbad ?_ H4 (((e1.trans e2).trans e3).trans e4)) (fun hb3 H4 e4 => ?_)
        · rw [cc]
          simpa using hb3
        · rw [hD]
          rcases h with ⟨hc, _⟩ | ⟨_, q⟩
          · rw [cc] at hc
            rw [hc] at hb3
            cases hb3
          · exact q H4 (((e1.trans e2).trans e3).trans e4)

/-! ### fitting, told -/
def rowsOf (nss : List (List Int)) : List Row := nss.map fun ns => .row (ns.map V.int)
def cluesB (nss : List (List Int)) : Bool :=
  ((decide (1 ≤ nss.length) && decide (nss.length ≤ 6)) && ((decide (1 ≤ (nss.headD []).length) && decide ((nss.headD []).length ≤ 6)) && decide (nss.length * (nss.headD []).length ≤ 9))) &&
  ((nss.all fun ns => decide (ns.length = (nss.headD []).length)) && nss.all fun ns => ns.all fun n => decide (-1 ≤ n) && decide (n ≤ 4))
theorem rowsOf_head (nss : List (List Int)) : ((rowsOf nss).headD .other).len = (nss.headD []).length := by
  cases nss with
  | nil => rfl
  | cons a r => exact List.length_map ..
theorem rowsOf_chk (nss : List (List Int)) (h : cluesB nss = true) : cluesChk (rowsOf nss) = true := by
  unfold cluesB at h
  simp only [Bool.and_eq_true, List.all_eq_true, decide_eq_true_eq] at h
  obtain ⟨⟨h1, h2, h3⟩, h4, h5⟩ := h
  unfold cluesChk
  rw [rowsOf_head]
  have ln : (rowsOf nss).length = nss.length := List.length_map ..
  simp only [Bool.and_eq_true, List.all_eq_true, decide_eq_true_eq, ln]
  have mem : ∀ r ∈ rowsOf nss, ∃ ns ∈ nss, r = .row (ns.map V.int) := fun r hr => by
    obtain ⟨ns, h, e⟩ := List.mem_map.mp hr
    exact ⟨ns, h, e.symm⟩
  refine ⟨⟨h1, fun r hr => ?_⟩, ⟨h2, h3, fun r hr => ?_⟩, fun r hr => ?_⟩
  · obtain ⟨ns, _, rfl⟩ := mem r hr
    rfl
  · obtain ⟨ns, hn, rfl⟩ := mem r hr
    rw [← h4 ns hn]
    exact List.length_map ..
  · obtain ⟨ns, hn, rfl⟩ := mem r hr
    show (ns.map V.int).all (inRange (-1) 4) = true
    rw [List.all_map, List.all_eq_true]
    intro x hx
    have := h5 ns hn x hx
    simp only [Function.comp, inRange, Bool.and_eq_true, decide_eq_true_eq]
    exact this
theorem cluesB_R {nss : List (List Int)} (h : cluesB nss = true) : CluesR nss := by
  unfold cluesB at h
  simp only [Bool.and_eq_true, List.all_eq_true, decide_eq_true_eq] at h
  obtain ⟨⟨h1, h2, h3⟩, h4, h5⟩ := h
  exact ⟨⟨h1.1, h1.2, h2.1, h2.2⟩, h3, fun ns hn => by rw [h4 ns hn]; omega⟩
theorem rowIs_of {K : PySem.W.Frag} {H : Hp} : ∀ {rs : List Addr} {nss : List (List Int)}, (∀ ns ∈ nss, ns.length ≤ 1000) → Paired (fun (r : Addr) (ns : List Int) => SqL K H r (ns.map V.int)) rs nss → Paired (RowIs K H) (rs.map V.ref) (rowsOf nss)
  | [], [], _, .nil => .nil
  | r :: rs, ns :: nss, hl, .cons h hs => .cons ⟨r, rfl, h, by rw [List.length_map]; exact hl ns List.mem_cons_self, fun y hy => by
      obtain ⟨m, _, rfl⟩ := List.mem_map.mp hy
      exact ⟨_, known_int m⟩⟩ (rowIs_of (fun m hm => hl m (List.mem_cons_of_mem _ hm)) hs)
theorem doorC_good {K : PySem.W.Frag} {C : Ad} {a : Addr} {H : Hp} {E : XK} {nss : List (List Int)} {ok : Addr → List Row → Prop} (hr : RowsAt K H a nss) (hb : cluesB nss = true) (h : ok a (rowsOf nss)) : DoorC K C (.ref a) H E ok := by
  have ck := cluesB_R hb
  obtain ⟨rs, h1, h2⟩ := hr
  have := ck.g.2.1
  exact .inr ⟨a, _, rowsOf nss, rfl, h1, by rw [List.length_map, Paired.length h2]; omega, rowIs_of ck.len h2, .inr ⟨rowsOf_chk nss hb, h⟩⟩
def OkC (K : PySem.W.Frag) (H : Hp) (R : List (List Int) → Prop) : Addr → List Row → Prop := fun a _ => ∃ nss, RowsAt K H a nss ∧ CluesR nss ∧ R nss
theorem DoorC.mono {K : PySem.W.Frag} {C : Ad} {v : V} {H : Hp} {E : XK} {ok ok' : Addr → List Row → Prop} (h : DoorC K C v H E ok) (hk : ∀ a rows, v = .ref a → ok a rows → ok' a rows) : DoorC K C v H E ok' := by
  rcases h with h | ⟨a, xs, rows, rfl, h1, h2, h3, h⟩
  · exact .inl h
  · exact .inr ⟨a, xs, rows, rfl, h1, h2, h3, h.imp id fun z => ⟨z.1, hk a rows rfl z.2⟩⟩
def sp_fitting (K : PySem.W.Frag) (C : Ad) : Sp := fun vs H Q E => ∃ v, vs = [v] ∧ DoorC K C v H E (OkC K H fun nss => RetP (fun H1 v H2 => NewLL H1 v H2 (ints2 (fittingOf nss))) H Q)
theorem ep_fitting {K : PySem.W.Frag} {C : Ad} {σ : L2.St} {H : Hp} {ta : TA} {E : XK} {a : Addr} {nss : List (List Int)} (ha : EvA ta σ H [.ref a]) (hr : RowsAt K H a nss) (hb : cluesB nss = true) : EvP (tCall (sp_fitting K C) [] E ta) σ H (fun H1 v H2 => NewLL H1 v H2 (ints2 (fittingOf nss))) := fun H1 e Q q =>
  ha H1 e _ fun H2 e2 => ⟨_, rfl, doorC_good (hr.mono (e.trans e2)) hb ⟨nss, hr.mono (e.trans e2), cluesB_R hb, fun v H3 e3 z => q v H3 (e2.trans e3) (z.back e2)⟩⟩
def t_fitting (K : PySem.W.Frag) (C : Ad) (E : XK) : TS := (tSeq (tDrop (tCall (sp_check_clues K C) [] E (tCons (tVar 0) tNil)))
      (tRet (tCall (sp_fitting_of K) [] E0 (tCons (tVar 0) tNil))))
theorem pure_fitting {K : PySem.W.Frag} {C : Ad} {vs : List V} {H : Hp} {Q : VK} {E : XK} {D : Ends} (hD : D.rt = Q) (h : sp_fitting K C vs H Q E) : t_fitting K C E D (start ["clues"] vs) H := by
  obtain ⟨v, rfl, h⟩ := h
  subst hD
  change t_fitting K C E D [some v] H
  refine ⟨v, rfl, v, rfl, h.mono fun a rows hv hk H1 e1 => ?_⟩
  obtain ⟨nss, hr, ck, q⟩ := hk
  subst hv
  exact s_retP (ep_fitting_of (K := K) (ea_cons (ev_var rfl) ea_nil) (hr.mono e1) ck) fun v H2 e2 z => q v H2 (e1.trans e2) (z.back e1)
inductive Tld
  | never
  | one (a : List Int)
  | two (a b : List Int)
deriving DecidableEq
def toldM (nss : List (List Int)) : Tld :=
  match fittingOf nss with
  | [] => .never
  | [a] => .one a
  | a :: b :: _ => .two a b
def NewTold (C : Ad) : Tld → Hp → V → Hp → Prop
  | .never => NewI C.cNever []
  | .one a => NewOne C (a.map V.int)
  | .two a b => NewTwo C (a.map V.int) (b.map V.int)
theorem NewTold.back {C : Ad} {a : Tld} {H0 H1 H2 : Hp} {v : V} (e : Ex H0 H1) (h : NewTold C a H1 v H2) : NewTold C a H0 v H2 := by
  cases a with
  | never => exact NewI.back e h
  | one a =>
    obtain ⟨p, dx, l, rfl, hp, hl, h1, h2⟩ := h
    exact ⟨p, dx, l, rfl, fresh_back e hp, fresh_back e hl, h1, h2⟩
  | two a b =>
    obtain ⟨p, dx, l, m, rfl, hp, hl, hm, lm, h1, h2, h3⟩ := h
    exact ⟨p, dx, l, m, rfl, fresh_back e hp, fresh_back e hl, fresh_back e hm, lm, h1, h2, h3⟩
def sp_told (K : PySem.W.Frag) (C : Ad) : Sp := fun vs H Q E => ∃ v, vs = [v] ∧ DoorC K C v H E (OkC K H fun nss => RetP (NewTold C (toldM nss)) H Q)
theorem ep_told {K : PySem.W.Frag} {C : Ad} {σ : L2.St} {H : Hp} {ta : TA} {E : XK} {a : Addr} {nss : List (List Int)} (ha : EvA ta σ H [.ref a]) (hr : RowsAt K H a nss) (hb : cluesB nss = true) : EvP (tCall (sp_told K C) [] E ta) σ H (NewTold C (toldM nss)) := fun H1 e Q q =>
  ha H1 e _ fun H2 e2 => ⟨_, rfl, doorC_good (hr.mono (e.trans e2)) hb ⟨nss, hr.mono (e.trans e2), cluesB_R hb, fun v H3 e3 z => q v H3 (e2.trans e3) (z.back e2)⟩⟩
def t_told (K : PySem.W.Frag) (C : Ad) (E : XK) : TS := (tSeq (tDrop (tCall (sp_check_clues K C) [] E (tCons (tVar 0) tNil)))
      (tSeq (tAsg (tCall (sp_fitting_of K) [] E0 (tCons (tVar 0) tNil)) (gName 1))
      (tSeq (tIfS (tTest (tOp (rEqD K) (tVar 1) (tLst tNil))) (tRet (tBare C.cNever)) tNext)
      (tRet (tIf (tTest (tOp rEq (tCB (rLenS K) (tCons (tVar 1) tNil)) (tC (.int 1)))) (tMake C.cOne (sp_One_init K C) [] E0 (tCons (tOp (rIxL K) (tVar 1) (tC (.int 0))) tNil)) (tMake C.cTwo (sp_Two_init K C) [] E0 (tCons (tOp (rIxL K) (tVar 1) (tC (.int 0))) (tCons (tOp (rIxL K) (tVar 1) (tC (.int 1))) tNil))))))))
theorem pure_told {K : PySem.W.Frag} {C : Ad} {vs : List V} {H : Hp} {Q : VK} {E : XK} {D : Ends} (hD : D.rt = Q) (h : sp_told K C vs H Q E) : t_told K C E D (start ["clues", "found"] vs) H := by
  obtain ⟨v, rfl, h⟩ := h
  subst hD
  change t_told K C E D [some v, none] H
  refine ⟨v, rfl, v, rfl, h.mono fun a rows hv hk H1 e1 => ?_⟩
  obtain ⟨nss, hr, ck, q⟩ := hk
  subst hv
  refine q_asgP (i := 1) (ep_fitting_of (K := K) (ea_cons (ev_var rfl) ea_nil) (hr.mono e1) ck) fun v H2 e2 hv => ?_
  have tm : toldM nss = match fittingOf nss with | [] => .never | [a] => .one a | a :: b :: _ => .two a b := rfl
  have dv : Dp K H2 v (dII (fittingOf nss)) := hv.dp
  obtain ⟨p, bs, rfl, hp, h2, hbs, hb⟩ := hv.bs
  generalize fittingOf nss = fs at *
  refine q_when (b := decide (fs = [])) (et_is (et_test (ev_eqD (d' := dII []) (ed_of (ev_var rfl) dv) (ed_lst ead_nil (by simp)) (shaped_rows _) (shaped_rows _))) (by rw [eqv_dII])) (fun hb' H3 e3 => ?_) (fun hb' H3 e3 => ?_)
  · have : fs = [] := of_decide_eq_true hb'
    subst this
    refine s_retP ep_bare fun v H4 e4 z => q v H4 (((e1.trans e2).trans e3).trans e4) ?_
    rw [tm]
    exact NewI.back ((e1.trans e2).trans e3) z
  · have hn : fs ≠ [] := of_decide_eq_false hb'
    have h3 := e3 _ _ h2
    have hb3 : ∀ b ∈ bs, H3 b.1 = some (.lst (b.2.map V.int)) := fun b m => e3 _ _ (hb b m).2
    refine s_retP (R := NewTold C (toldM nss)) (ep_if (b := decide (fs.length = 1)) (fun e z => z.back e) (et_is (et_test (ev_op (x := .int (fs.length : Int)) (ev_is (ev_lenS (K := K) (es_of (ev_var rfl) (sq_of h3))) ?_) (ev_c (v := .int 1)) (rv_eq rfl))) ?_) (fun hl => ?_) (fun hl => ?_)) fun v H4 e4 z => q v H4 (((e1.trans e2).trans e3).trans e4) (z.back ((e1.trans e2).trans e3))
    · rw [hbs, List.length_map, List.length_map]
    · rw [Bool.eq_iff_iff, decide_eq_true_eq, decide_eq_true_eq, V.int.injEq]
      omega
    · have hl := of_decide_eq_true hl
      cases bs with
      | nil => exact absurd hbs hn
      | cons b r =>
        cases r with
        | nil =>
          subst hbs
          rw [tm]
          exact ep_One (es_of (ev_ixS (es_of (ev_var rfl) (sq_of h3)) ev_c (atI_nat (j := 0) rfl)) (sq_of (hb3 b List.mem_cons_self)))
        | cons c r => rw [hbs] at hl; simp at hl
    · have hl := of_decide_eq_false hl
      cases bs with
      | nil => exact absurd hbs hn
      | cons b r =>
        cases r with
        | nil => rw [hbs] at hl; simp at hl
        | cons c r =>
          subst hbs
          rw [tm]
          exact ep_Two (K := K) (C := C) (ev_ixS (es_of (ev_var rfl) (sq_of h3)) ev_c (atI_nat (j := 0) rfl)) (ev_ixS (es_of (ev_var rfl) (sq_of h3)) ev_c (atI_nat (j := 1) rfl)) (hb3 b List.mem_cons_self) (hb3 c (List.mem_cons_of_mem _ List.mem_cons_self))

/-! ### lists of pairs -/
/-- refs to tuples of two ints -/
def Prs (K : PySem.W.Frag) (H : Hp) : List Addr → List (Int × Int) → Prop := Paired fun q pr => SqT K H q [.int pr.1, .int pr.2]
theorem Prs.mono {K : PySem.W.Frag} {H H' : Hp} {ps : List Addr} {prs : List (Int × Int)} (e : Ex H H') (h : Prs K H ps prs) : Prs K H' ps prs := Paired.mapP h fun _ _ z => ex_t e z
theorem paired_get {α β : Type} {F : α → β → Prop} : ∀ {l : List α} {m : List β} {i : Nat} {a : α}, Paired F l m → l[i]? = some a → ∃ b, m[i]? = some b ∧ F a b
  | _ :: _, _ :: _, 0, _, .cons h _, e => by
    have := Option.some.inj e
    subst this
    exact ⟨_, rfl, h⟩
  | _ :: _, _ :: _, i + 1, a, .cons _ hs, e => paired_get (i := i) (a := a) hs e
/-- arguments that are written pairs of ints -/
def EvAP (K : PySem.W.Frag) (ta : TA) (σ : L2.St) (H : Hp) (prs : List (Int × Int)) : Prop := ∀ H1, Ex H H1 → ∀ Q : List V → Hp → Prop, (∀ ps H2, Ex H1 H2 → Prs K H2 ps prs → Q (ps.map V.ref) H2) → ta σ H1 Q
section
variable {K : PySem.W.Frag} {σ : L2.St} {H H' : Hp} {ta tb te tl : TE} {tr : TA} {t : TT} {D : Ends} {tz : TS}
theorem eap_nil : EvAP K tNil σ H [] := fun H1 _ _ q => q [] H1 (Ex.refl H1) .nil
theorem eap_cons {x y : Int} {prs : List (Int × Int)} (h : EvST K ta σ H [.int x, .int y]) (hr : EvAP K tr σ H prs) : EvAP K (tCons ta tr) σ H ((x, y) :: prs) := fun H1 e _ q =>
  h H1 e _ fun p H2 e2 hp => hr H2 (e.trans e2) _ fun ps H3 e3 hs => q (p :: ps) H3 (e2.trans e3) (.cons (ex_t e3 hp) hs)
/-- xs = [(a, b), ..] -/
theorem q_asgPrs {i : Nat} {prs : List (Int × Int)} (h : EvAP K tr σ H prs) (hl : prs.length ≤ 1000) (k : ∀ p ps H1, H p = none → Ex H H1 → H1 p = some (.lst (ps.map V.ref)) → Prs K H1 ps prs → tz D (σ.set i (some (.ref p))) H1) : tSeq (tAsg (tLst tr) (gName i)) tz D σ H :=
  h H (Ex.refl H) _ fun ps H1 e hp => ⟨sz_of (by rw [List.length_map, Paired.length hp]; omega), fun p np => k p ps _ (fresh_back e np) (e.trans (Ex.new np)) upd_same (hp.mono (Ex.new np))⟩
/-- [e for a, b in ps if t], ps a list of pairs -/
theorem el_lcPrs {i j : Nat} {vs : List Nat} {a : Addr} {ps : List Addr} {prs : List (Int × Int)} (f : Int × Int → Bool) (g : Int × Int → V) (h : Ev tl σ H (.ref a)) (ha : SqL K H a (ps.map V.ref)) (hp : Prs K H ps prs) (hz : ps.length ≤ 40000)
    (hw : ∀ x y, wipe (((wipe σ vs).set i (some x)).set j (some y)) vs = wipe σ vs)
    (ht : ∀ (p : Int × Int) H1, Ex H H1 → p ∈ prs → EvT t (((wipe σ vs).set i (some (.int p.1))).set j (some (.int p.2))) H1 (f p)) (he : ∀ (p : Int × Int) H1, Ex H H1 → p ∈ prs → f p = true → Ev te (((wipe σ vs).set i (some (.int p.1))).set j (some (.int p.2))) H1 (g p)) :
    EvL (tLc (iList K tl) (gTup K 2 (gCons (gName i) (gCons (gName j) gNil))) t te vs) σ H ((prs.filter f).map g) := fun H0 e Q q => h H0 e _ fun H1 e1 => ⟨a, rfl, ⟨_, ex_l (e.trans e1) ha⟩, fun Dl hD => by
  have ln : (ps.map V.ref).length = prs.length := by rw [List.length_map]; exact Paired.length hp
  refine lc_list (xs := ps.map V.ref) (fun n => Grow H1 Dl (((prs.take n).filter f).map g)) ⟨hD, Ex.new hD, upd_same⟩ (fun n H' _ p => ex_l ((e.trans e1).trans p.2.1) ha) (fun n x H' hi p => ?_) (fun H' p => ?_)
  · rw [List.getElem?_map] at hi
    obtain ⟨r, hr, rfl⟩ := Option.map_eq_some_iff.mp hi
    obtain ⟨pr, hpr, hq⟩ := paired_get hp hr
    have hm : pr ∈ prs := List.mem_of_getElem? hpr
    refine ⟨r, _, rfl, ex_t ((e.trans e1).trans p.2.1) hq, rfl, _, _, rfl, _, _, rfl, rfl, hw _ _, ?_⟩
    have hlen : (((prs.take n).filter f).map g).length < 100000 := by
      rw [List.length_map]
      have h1 := List.length_filter_le f (prs.take n)
      have h2 : (prs.take n).length ≤ prs.length := by rw [List.length_take]; omega
      rw [List.length_map] at ln
      omega
    have w := grow_turn p hlen (ht pr H1 (e.trans e1) hm) (he pr H1 (e.trans e1) hm)
    have e2 : (((prs.take (n + 1)).filter f).map g) = ((prs.take n).filter f).map g ++ if f pr = true then [g pr] else [] := by
      rw [take_snoc hpr, List.filter_append, List.map_append]
      congr 1
      cases hf : f pr <;> simp [hf]
    rw [e2]
    exact w
  · rw [ln, List.take_length] at p
    exact q Dl H' (fresh_back e1 p.1) (e1.trans p.2.1) p.2.2⟩
end

/-! ### side_ahead -/
def dP (a b : Int) : PyData := .tuple [.int a, .int b]
theorem dp_pair {K : PySem.W.Frag} {H : Hp} {v : V} {a b : Int} (h : Dp K H v (dP a b)) : ∃ p, v = .ref p ∧ SqT K H p [.int a, .int b] := by
  cases h with
  | tup hs ha =>
    cases ha with
    | cons h1 h2 =>
      cases h2 with
      | cons h3 h4 =>
        cases h4
        cases h1
        cases h3
        exact ⟨_, rfl, hs⟩
theorem pair_dp {K : PySem.W.Frag} {H : Hp} {p : Addr} {a b : Int} (h : SqT K H p [.int a, .int b]) : Dp K H (.ref p) (dP a b) := .tup h (.cons (.int a) (.cons (.int b) .nil))
section
variable {K : PySem.W.Frag} {σ : L2.St} {H : Hp} {te ta tb : TE} {D : Ends} {tz : TS} {d : PyData}
theorem q_asgD {i : Nat} (h : EvD K te σ H d) (k : ∀ v H1, Ex H H1 → Dp K H1 v d → tz D (σ.set i (some v)) H1) : tSeq (tAsg te (gName i)) tz D σ H := h H (Ex.refl H) _ fun v H1 e z => k v H1 e z
theorem ed_pair {a b : Int} (ha : Ev ta σ H (.int a)) (hb : Ev tb σ H (.int b)) : EvD K (tTup (tCons ta (tCons tb tNil))) σ H (dP a b) := ed_tup (ead_cons (ed_int ha) (ead_cons (ed_int hb) ead_nil)) (by simp)
end
theorem dp_two {K : PySem.W.Frag} {H : Hp} {v : V} {d e : PyData} (h : Dp K H v (.tuple [d, e])) : ∃ p x y, v = .ref p ∧ SqT K H p [x, y] ∧ Dp K H x d ∧ Dp K H y e := by
  cases h with
  | tup hs ha =>
    cases ha with
    | cons h1 h2 =>
      cases h2 with
      | cons h3 h4 =>
        cases h4
        exact ⟨_, _, _, rfl, hs, h1, h3⟩
theorem dp_four {K : PySem.W.Frag} {H : Hp} {v : V} {d0 d1 d2 d3 : PyData} (h : Dp K H v (.tuple [d0, d1, d2, d3])) : ∃ p x0 x1 x2 x3, v = .ref p ∧ SqT K H p [x0, x1, x2, x3] ∧ Dp K H x0 d0 ∧ Dp K H x1 d1 ∧ Dp K H x2 d2 ∧ Dp K H x3 d3 := by
  cases h with
  | tup hs ha =>
    cases ha with
    | cons h0 h => cases h with
      | cons h1 h => cases h with
        | cons h2 h => cases h with
          | cons h3 h =>
            cases h
            exact ⟨_, _, _, _, _, rfl, hs, h0, h1, h2, h3⟩
/-- of four: the one at t -/
theorem pick4 {K : PySem.W.Frag} {H : Hp} {x0 x1 x2 x3 : V} (f : Nat → PyData) (h0 : Dp K H x0 (f 0)) (h1 : Dp K H x1 (f 1)) (h2 : Dp K H x2 (f 2)) (h3 : Dp K H x3 (f 3)) {t : Nat} (ht : t < 4) : ∃ x, atI [x0, x1, x2, x3] (t : Int) = some x ∧ Dp K H x (f t) := by
  have : t = 0 ∨ t = 1 ∨ t = 2 ∨ t = 3 := by omega
  rcases this with rfl | rfl | rfl | rfl
  · exact ⟨_, atI_nat (j := 0) rfl, h0⟩
  · exact ⟨_, atI_nat (j := 1) rfl, h1⟩
  · exact ⟨_, atI_nat (j := 2) rfl, h2⟩
  · exact ⟨_, atI_nat (j := 3) rfl, h3⟩
def sp_side_ahead (K : PySem.W.Frag) : Sp := fun vs H Q _ => ∃ g c q h w cs r a t, vs = [.ref g, .ref c, .ref q, .int ((t : Nat) : Int)] ∧ SqT K H g [.int ((h : Nat) : Int), .int ((w : Nat) : Int)] ∧ GOk h w ∧ SqL K H c ((cs : List Int).map V.int) ∧ SqT K H q [.int r, .int a] ∧ t < 4 ∧ RetV (.bl (sideAhead h w cs r a t)) H Q
theorem ev_side_ahead {K : PySem.W.Frag} {σ : L2.St} {H : Hp} {ta : TA} {E : XK} {g c q : Addr} {h w t : Nat} {cs : List Int} {r a : Int} (ha : EvA ta σ H [.ref g, .ref c, .ref q, .int (t : Int)]) (hs : SqT K H g [.int (h : Int), .int (w : Int)]) (gk : GOk h w) (hc : SqL K H c (cs.map V.int)) (hq : SqT K H q [.int r, .int a]) (ht : t < 4) :
    Ev (tCall (sp_side_ahead K) [] E ta) σ H (.bl (sideAhead h w cs r a t)) := fun H1 e Q k =>
  ha H1 e _ fun H2 e2 => ⟨g, c, q, h, w, cs, r, a, t, rfl, ex_t (e.trans e2) hs, gk, ex_l (e.trans e2) hc, ex_t (e.trans e2) hq, ht, fun H3 e3 => k H3 (e2.trans e3)⟩
def t_side_ahead (K : PySem.W.Frag) : TS := (tSeq (tAsg (tVar 0) (gTup K 2 (gCons (gName 4) (gCons (gName 5) gNil))))
      (tSeq (tAsg (tVar 2) (gTup K 2 (gCons (gName 6) (gCons (gName 7) gNil))))
      (tSeq (tAsg (tTup (tCons (tTup (tCons (tTup (tCons (tOp oSub (tVar 6) (tC (.int 1))) (tCons (tVar 7) tNil))) (tCons (tTup (tCons (tVar 6) (tCons (tVar 7) tNil))) tNil))) (tCons (tTup (tCons (tTup (tCons (tVar 6) (tCons (tVar 7) tNil))) (tCons (tTup (tCons (tVar 6) (tCons (tOp oSub (tVar 7) (tC (.int 1))) tNil))) tNil))) (tCons (tTup (tCons (tTup (tCons (tVar 6) (tCons (tOp oSub (tVar 7) (tC (.int 1))) tNil))) (tCons (tTup (tCons (tOp oSub (tVar 6) (tC (.int 1))) (tCons (tOp oSub (tVar 7) (tC (.int 1))) tNil))) tNil))) (tCons (tTup (tCons (tTup (tCons (tOp oSub (tVar 6) (tC (.int 1))) (tCons (tOp oSub (tVar 7) (tC (.int 1))) tNil))) (tCons (tTup (tCons (tOp oSub (tVar 6) (tC (.int 1))) (tCons (tVar 7) tNil))) tNil))) tNil))))) (gName 8))
      (tSeq (tAsg (tLst tNil) (gName 9))
      (tSeq (tFor (iTup K (tOp (rIxT K) (tVar 8) (tVar 3))) (gTup K 2 (gCons (gName 10) (gCons (gName 11) gNil))) (tDrop (tBM K "list" rAppend (tVar 9) (tCons (tAndV (tChain oLe oLt (tC (.int 0)) (tVar 10) (tVar 4)) (tAndV (tChain oLe oLt (tC (.int 0)) (tVar 11) (tVar 5)) (tOp (rIn K false) (tOp oAdd (tOp oMul (tVar 10) (tVar 5)) (tVar 11)) (tVar 1)))) tNil))))
      (tRet (tOp rNe (tOp (rIxL K) (tVar 9) (tC (.int 0))) (tOp (rIxL K) (tVar 9) (tC (.int 1))))))))))
def dQ (r a : Int) (t : Nat) : PyData := .tuple [dP (pairOf r a t).1.1 (pairOf r a t).1.2, dP (pairOf r a t).2.1 (pairOf r a t).2.2]
theorem pure_side_ahead {K : PySem.W.Frag} {vs : List V} {H : Hp} {Q : VK} {E : XK} {D : Ends} (hD : D.rt = Q) (h : sp_side_ahead K vs H Q E) : t_side_ahead K D (start ["grid", "cells", "point", "turn", "high", "wide", "row", "at", "pairs", "found", "here", "there"] vs) H := by
  obtain ⟨g, c, q, h, w, cs, r, a, t, rfl, hs, gk, hc, hq, ht, k⟩ := h
  subst hD
  change t_side_ahead K D [some (.ref g), some (.ref c), some (.ref q), some (.int (t : Int)), none, none, none, none, none, none, none, none] H
  have gb := gk
  obtain ⟨g1, g2, g3, g4⟩ := gb
  refine q_unp (i := 4) (j := 5) (est_of (ev_var rfl) hs) fun H1 e1 => ?_
  refine q_unp (i := 6) (j := 7) (est_of (ev_var rfl) (ex_t e1 hq)) fun H2 e2 => ?_
  refine q_asgD (K := K) (i := 8) (d := .tuple [dQ r a 0, dQ r a 1, dQ r a 2, dQ r a 3]) (ed_tup (ead_cons (d := dQ r a 0) (ed_tup (ead_cons (d := dP (r - 1) a) (ed_pair (by walk_at "ev") (by walk_at "ev")) (ead_cons (d := dP r a) (ed_pair (by walk_at "ev") (by walk_at "ev")) ead_nil)) (by simp))
    (ead_cons (d := dQ r a 1) (ed_tup (ead_cons (d := dP r a) (ed_pair (by walk_at "ev") (by walk_at "ev")) (ead_cons (d := dP r (a - 1)) (ed_pair (by walk_at "ev") (by walk_at "ev")) ead_nil)) (by simp))
    (ead_cons (d := dQ r a 2) (ed_tup (ead_cons (d := dP r (a - 1)) (ed_pair (by walk_at "ev") (by walk_at "ev")) (ead_cons (d := dP (r - 1) (a - 1)) (ed_pair (by walk_at "ev") (by walk_at "ev")) ead_nil)) (by simp))
    (ead_cons (d := dQ r a 3) (ed_tup (ead_cons (d := dP (r - 1) (a - 1)) (ed_pair (by walk_at "ev") (by walk_at "ev")) (ead_cons (d := dP (r - 1) a) (ed_pair (by walk_at "ev") (by walk_at "ev")) ead_nil)) (by simp)) ead_nil)))) (by simp)) fun v H3 e3 hv => ?_
  obtain ⟨p, x0, x1, x2, x3, rfl, sp, d0, d1, d2, d3⟩ := dp_four hv
  obtain ⟨x, hx, dx⟩ := pick4 (dQ r a) d0 d1 d2 d3 ht
  obtain ⟨y, u, v, rfl, sy, du, dv⟩ := dp_two dx
  obtain ⟨pu, rfl, su⟩ := dp_pair du
  obtain ⟨pv, rfl, sv⟩ := dp_pair dv
  refine q_asgL (i := 9) (xs := []) (el_lst ea_nil (by simp)) fun f H4 hf e4 h4 => ?_
  have hs4 := ex_t ((e1.trans e2).trans (e3.trans e4)) hs
  have hc4 := ex_l ((e1.trans e2).trans (e3.trans e4)) hc
  have tgt : Ev (tOp (rIxT K) (tVar 8) (tVar 3)) [some (.ref g), some (.ref c), some (.ref q), some (.int (t : Int)), some (.int (h : Int)), some (.int (w : Int)), some (.int r), some (.int a), some (.ref p), some (.ref f), none, none] H4 (.ref y) := ev_ixT (est_of (ev_var rfl) (ex_t e4 sp)) (ev_var rfl) hx
  have isS : sideAhead h w cs r a t = (inCell h w cs (pairOf r a t).1.1 (pairOf r a t).1.2 != inCell h w cs (pairOf r a t).2.1 (pairOf r a t).2.2) := rfl
  generalize (pairOf r a t).1.1 = r1 at *
  generalize (pairOf r a t).1.2 = a1 at *
  generalize (pairOf r a t).2.1 = r2 at *
  generalize (pairOf r a t).2.2 = a2 at *
  refine q_forT (K := K) tgt (ex_t e4 sy) (fun n σ' H' => ∃ y10 y11, σ' = [some (.ref g), some (.ref c), some (.ref q), some (.int (t : Int)), some (.int (h : Int)), some (.int (w : Int)), some (.int r), some (.int a), some (.ref p), some (.ref f), y10, y11] ∧ (∀ b o, b ≠ f → H4 b = some o → H' b = some o) ∧ H' f = some (.lst (([inCell h w cs r1 a1, inCell h w cs r2 a2].take n).map V.bl)))
    (fun H5 e5 => ⟨_, _, rfl, fun b o _ hb => e5 _ _ hb, e5 _ _ h4⟩) (fun n σ' H' _ hP => ?_) (fun n x σ' H' hx hP => ?_) (fun σ' H' hP => ?_)
  · obtain ⟨_, _, _, hb, _⟩ := hP
    have ex3 : Ex H3 H' := fun b o ho => hb b o (ne_of_none ho hf) (e4 _ _ ho)
    exact ex_t ex3 sy
  · obtain ⟨y10, y11, rfl, hb, hl⟩ := hP
    have ex3 : Ex H3 H' := fun b o ho => hb b o (ne_of_none ho hf) (e4 _ _ ho)
    have hcX : SqL K H' c (cs.map V.int) := ex_l (((e1.trans e2).trans e3).trans ex3) hc
    have val' : ∀ (r1 a1 : Int), Ev (tAndV (tChain oLe oLt (tC (.int 0)) (tVar 10) (tVar 4)) (tAndV (tChain oLe oLt (tC (.int 0)) (tVar 11) (tVar 5)) (tOp (rIn K false) (tOp oAdd (tOp oMul (tVar 10) (tVar 5)) (tVar 11)) (tVar 1))))
        [some (.ref g), some (.ref c), some (.ref q), some (.int (t : Int)), some (.int (h : Int)), some (.int (w : Int)), some (.int r), some (.int a), some (.ref p), some (.ref f), some (.int r1), some (.int a1)] H' (.bl (inCell h w cs r1 a1)) := fun r1 a1 =>
      ev_andV (ev_chain (x := .int 0) (y := .int r1) (z := .int (h : Int)) ev_c (ev_var rfl) rv_I0 (fun _ => ev_var rfl) (fun _ => rv_I0)) (fun _ => ev_andV (ev_chain (x := .int 0) (y := .int a1) (z := .int (w : Int)) ev_c (ev_var rfl) rv_I0 (fun _ => ev_var rfl) (fun _ => rv_I0))
        (fun _ => ev_isIn (ev_op (x := .int (r1 * (w : Int))) (y := .int a1) (ev_op (x := .int r1) (y := .int (w : Int)) (ev_var rfl) (ev_var rfl) (rv_I (.inr ⟨by omega, by omega⟩))) (ev_var rfl) rv_I0) (es_of (ev_var rfl) hcX)))
    have hn : n = 0 ∨ n = 1 := by
      have := (List.getElem?_eq_some_iff.mp hx).1
      simp only [List.length_cons, List.length_nil] at this
      omega
    rcases hn with rfl | rfl
    · have : x = .ref pu := (Option.some.inj hx).symm
      subst this
      refine ⟨pu, _, rfl, ex_t ex3 su, rfl, _, _, rfl, _, _, rfl, rfl, ?_⟩
      refine s_app (K := K) (l := f) hl (ev_var rfl) (val' r1 a1) (by simp) fun H6 e6 => ⟨_, _, rfl, fun b o nb hb' => ?_, ?_⟩
      · rw [upd_ne nb]
        exact e6 _ _ (hb b o nb hb')
      · rw [upd_same]
        rfl
    · have : x = .ref pv := (Option.some.inj hx).symm
      subst this
      refine ⟨pv, _, rfl, ex_t ex3 sv, rfl, _, _, rfl, _, _, rfl, rfl, ?_⟩
      refine s_app (K := K) (l := f) hl (ev_var rfl) (val' r2 a2) (by simp) fun H6 e6 => ⟨_, _, rfl, fun b o nb hb' => ?_, ?_⟩
      · rw [upd_ne nb]
        exact e6 _ _ (hb b o nb hb')
      · rw [upd_same]
        rfl
  · obtain ⟨y10, y11, rfl, hb, hl⟩ := hP
    have ex3 : Ex H3 H' := fun b o ho => hb b o (ne_of_none ho hf) (e4 _ _ ho)
    have hl' : H' f = some (.lst [.bl (inCell h w cs r1 a1), .bl (inCell h w cs r2 a2)]) := hl
    refine s_ret (v := .bl (sideAhead h w cs r a t)) (ev_is (ev_op (x := .bl (inCell h w cs r1 a1)) (y := .bl (inCell h w cs r2 a2)) (ev_ixS (es_of (ev_var rfl) (sq_of hl')) ev_c (atI_nat (j := 0) rfl)) (ev_ixS (es_of (ev_var rfl) (sq_of hl')) ev_c (atI_nat (j := 1) rfl)) (rv_ne rfl)) ?_) fun H5 e5 => k H5 ((((e1.trans e2).trans e3).trans ex3).trans e5)
    rw [isS]
    cases inCell h w cs r1 a1 <;> cases inCell h w cs r2 a2 <;> rfl

/-! ### walk -/
def NewPts (K : PySem.W.Frag) (pts : List (Int × Int)) (H1 : Hp) (v : V) (H2 : Hp) : Prop := ∃ p qs, v = .ref p ∧ H1 p = none ∧ H2 p = some (.lst (qs.map V.ref)) ∧ Prs K H2 qs pts
theorem NewPts.back {K : PySem.W.Frag} {pts : List (Int × Int)} {H0 H1 H2 : Hp} {v : V} (e : Ex H0 H1) (h : NewPts K pts H1 v H2) : NewPts K pts H0 v H2 := by
  obtain ⟨p, qs, rfl, hp, h2, h3⟩ := h
  exact ⟨p, qs, rfl, fresh_back e hp, h2, h3⟩
def OkW (K : PySem.W.Frag) (C : Ad) (H : Hp) (Q : VK) (E : XK) : Addr → Nat → Nat → List Int → Prop := fun _ h w cs =>
  (isRing h w cs = false ∧ RetE C.cNoRing H E) ∨ (isRing h w cs = true ∧ ∃ pts, walkOf h w cs = some pts ∧ RetP (NewPts K pts) H Q)
def sp_walk (K : PySem.W.Frag) (C : Ad) : Sp := fun vs H Q E => ∃ v u, vs = [v, u] ∧ DoorGC K C v u H Q E (OkW K C H Q E)
theorem ep_walk {K : PySem.W.Frag} {C : Ad} {σ : L2.St} {H : Hp} {ta tb : TE} {E : XK} {h w : Nat} {cs : List Int} {pts : List (Int × Int)} (ha : EvST K ta σ H [.int (h : Int), .int (w : Int)]) (gk : GOk h w) (hc : EvS K tb σ H (cs.map V.int)) (ck : COk h w cs) (hi : isRing h w cs = true) (hp : walkOf h w cs = some pts) :
    EvP (tCall (sp_walk K C) [] E (tCons ta (tCons tb tNil))) σ H (NewPts K pts) := fun H1 e Q q =>
  ha H1 e _ fun g H2 e2 hg => hc H2 (e.trans e2) _ fun c H3 e3 hc3 => ⟨_, _, rfl, .inr ⟨g, h, w, rfl, ex_t e3 hg, gk, .inr ⟨c, cs, rfl, hc3, ck, .inr ⟨hi, pts, hp, fun v H4 e4 z => q v H4 ((e2.trans e3).trans e4) (z.back (e2.trans e3))⟩⟩⟩⟩
def t_walk (K : PySem.W.Frag) (C : Ad) (E : XK) : TS := (tSeq (tDrop (tCall (sp_check_grid K C) [] E (tCons (tVar 0) tNil)))
      (tSeq (tDrop (tCall (sp_check_cells K C) [] E (tCons (tVar 0) (tCons (tVar 1) tNil))))
      (tSeq (tIfS (tNot (tB (tCall (sp_is_ring K) [] E0 (tCons (tVar 0) (tCons (tVar 1) tNil))))) (tRaise E (.ref C.cNoRing)) tNext)
      (tSeq (tAsg (tTup (tCons (tOp oDiv (tOp (rIxL K) (tVar 1) (tC (.int 0))) (tOp (rIxT K) (tVar 0) (tC (.int 1)))) (tCons (tOp oMod (tOp (rIxL K) (tVar 1) (tC (.int 0))) (tOp (rIxT K) (tVar 0) (tC (.int 1)))) tNil))) (gName 2))
      (tSeq (tAsg (tTup (tCons (tTup (tCons (tC (.int 0)) (tCons (tC (.int 1)) tNil))) (tCons (tTup (tCons (tC (.int 1)) (tCons (tC (.int 0)) tNil))) (tCons (tTup (tCons (tC (.int 0)) (tCons (tUn oNeg (tC (.int 1))) tNil))) (tCons (tTup (tCons (tUn oNeg (tC (.int 1))) (tCons (tC (.int 0)) tNil))) tNil))))) (gName 3))
      (tSeq (tPar 4 5 (tCons (tLst (tCons (tVar 2) tNil)) (tCons (tC (.int 0)) tNil)))
      (tSeq (tAsg (tTup (tCons (tOp (rIxT K) (tVar 2) (tC (.int 0))) (tCons (tOp oAdd (tOp (rIxT K) (tVar 2) (tC (.int 1))) (tC (.int 1))) tNil))) (gName 6))
      (tSeq (tWhile (tTest (tOp (rNeD K) (tVar 6) (tVar 2))) (tSeq (tDrop (tBM K "list" rAppend (tVar 4) (tCons (tVar 6) tNil)))
      (tSeq (tAsg (tOp oMod (tOp oAdd (tVar 5) (tC (.int 2))) (tC (.int 4))) (gName 7))
      (tSeq (tAsg (tOp (rIxL K) (tLc (iRng1 (tCons (tC (.int 4)) tNil)) (gName 8) (tAnd (tTest (tOp rNe (tVar 8) (tVar 7))) (tB (tCall (sp_side_ahead K) [] E0 (tCons (tVar 0) (tCons (tVar 1) (tCons (tVar 6) (tCons (tVar 8) tNil))))))) (tVar 8) [8]) (tC (.int 0))) (gName 5))
      (tAsg (tTup (tCons (tOp oAdd (tOp (rIxT K) (tVar 6) (tC (.int 0))) (tOp (rIxT K) (tOp (rIxT K) (tVar 3) (tVar 5)) (tC (.int 0)))) (tCons (tOp oAdd (tOp (rIxT K) (tVar 6) (tC (.int 1))) (tOp (rIxT K) (tOp (rIxT K) (tVar 3) (tVar 5)) (tC (.int 1)))) tNil))) (gName 6))))))
      (tRet (tVar 4))))))))))
def dS (t : Nat) : PyData := dP (stepOf t).1 (stepOf t).2
theorem eqv_dP (a b c d : Int) : PyData.eqv (dP a b) (dP c d) = decide (a = c ∧ b = d) := by
  unfold dP
  rw [Bool.eq_iff_iff]
  simp [PyData.eqv, PyData.eqvAll]
theorem shaped_dP (a b : Int) : SeqAt.shaped (dP a b) = true := by
  have e1 : PyData.canLay0 (dP a b) = true := by
    unfold dP
    simp [PyData.canLay0, PyData.canLayAll0]
  have e2 : PyData.depth (dP a b) ≤ 64 := by
    unfold dP
    simp [PyData.depth, PyData.depthAll]
  unfold SeqAt.shaped
  rw [e1, decide_eq_true e2]
  rfl
theorem pure_walk {K : PySem.W.Frag} {C : Ad} {vs : List V} {H : Hp} {Q : VK} {E : XK} {D : Ends} (hD : D.rt = Q) (h : sp_walk K C vs H Q E) : t_walk K C E D (start ["grid", "cells", "first", "steps", "found", "turn", "here", "back", "way"] vs) H := by
  obtain ⟨v, u, rfl, hd⟩ := h
  subst hD
  change t_walk K C E D [some v, some u, none, none, none, none, none, none, none] H
  refine q_checks rfl rfl hd fun g h w c cs H1 hv hu e1 hs gk hc ck hok => ?_
  subst hv hu
  clear hd
  have cl := cok_len gk ck
  have gb := gk
  obtain ⟨g1, g2, g3, g4⟩ := gb
  have ir := ev_is_ring (K := K) (E := E0) (σ := [some (.ref g), some (.ref c), none, none, none, none, none, none, none]) (H := H1) (ta := tCons (tVar 0) (tCons (tVar 1) tNil)) (ea_cons (ev_var rfl) (ea_cons (ev_var rfl) ea_nil)) hs gk hc ck.1 (by omega)
  rcases hok with ⟨hi, q⟩ | ⟨hi, pts, hw, q⟩
  · rw [hi] at ir
    exact q_when (et_not (et_B ir)) (fun _ H2 e2 => q H2 (e1.trans e2)) (fun z => nomatch z)
  · rw [hi] at ir
    refine q_when (et_not (et_B ir)) (fun z => nomatch z) (fun _ H2 e2 => ?_)
    have hs2 := ex_t e2 hs
    have hc2 := ex_l e2 hc
    have it : Ev (tOp (rIxL K) (tVar 1) (tC (.int 0))) [some (.ref g), some (.ref c), none, none, none, none, none, none, none] H2 (.int (cs.headD 0)) := ev_ixS (es_of (ev_var rfl) hc2) ev_c (at_first ck.1)
    have wt : Ev (tOp (rIxT K) (tVar 0) (tC (.int 1))) [some (.ref g), some (.ref c), none, none, none, none, none, none, none] H2 (.int (w : Int)) := by walk_at "ev"
    unfold walkOf at hw
    generalize hfr : cs.headD 0 / (w : Int) = fr at *
    generalize hfc : cs.headD 0 % (w : Int) = fc at *
    refine q_asgU (i := 2) (xs := [.int fr, .int fc]) (eu_tup (ea_cons (by rw [← hfr]; exact ev_op it wt (rv_I ⟨by omega, by omega⟩)) (ea_cons (by rw [← hfc]; exact ev_op it wt (rv_I (by show (0 : Int) < _; omega))) ea_nil)) (by simp)) fun fp H3 hfp e3 h3 => ?_
    refine q_asgD (K := K) (i := 3) (d := .tuple [dS 0, dS 1, dS 2, dS 3]) (ed_tup (ead_cons (d := dS 0) (ed_pair (a := 0) (b := 1) ev_c ev_c) (ead_cons (d := dS 1) (ed_pair (a := 1) (b := 0) ev_c ev_c) (ead_cons (d := dS 2) (ed_pair (a := 0) (b := -1) ev_c (ev_un ev_c ru_neg)) (ead_cons (d := dS 3) (ed_pair (a := -1) (b := 0) (ev_un ev_c ru_neg) ev_c) ead_nil)))) (by simp)) fun v H4 e4 hv => ?_
    obtain ⟨sp, x0, x1, x2, x3, rfl, ss, d0, d1, d2, d3⟩ := dp_four hv
    have pk := fun {t : Nat} (ht : t < 4) => pick4 dS d0 d1 d2 d3 ht
    refine q_parL1 (i := 4) (j := 5) (xs := [.ref fp]) (y := .int 0) (el_lst (ea_cons (ev_var rfl) ea_nil) (by simp)) ev_c fun p H5 hp e5 h5 => ?_
    have h3' : ∀ {H'}, Ex H3 H' → SqT K H' fp [.int fr, .int fc] := fun e => st_of (e _ _ h3)
    have f0 : Ev (tOp (rIxT K) (tVar 2) (tC (.int 0))) [some (.ref g), some (.ref c), some (.ref fp), some (.ref sp), some (.ref p), some (.int 0), none, none, none] H5 (.int fr) := ev_ixT (est_of (ev_var rfl) (h3' (e4.trans e5))) ev_c (atI_nat (j := 0) rfl)
    have f1 : Ev (tOp (rIxT K) (tVar 2) (tC (.int 1))) [some (.ref g), some (.ref c), some (.ref fp), some (.ref sp), some (.ref p), some (.int 0), none, none, none] H5 (.int fc) := ev_ixT (est_of (ev_var rfl) (h3' (e4.trans e5))) ev_c (atI_nat (j := 1) rfl)
    refine q_asgU (i := 6) (xs := [.int fr, .int (fc + 1)]) (eu_tup (ea_cons f0 (ea_cons (ev_op f1 (ev_c (v := .int 1)) rv_I0) ea_nil)) (by simp)) fun hp6 H6 hhp e6 h6 => ?_
    have b4 : Ex H H4 := ((e1.trans e2).trans e3).trans e4
    refine q_while (fun m σ' H' => ∃ (f : List (Int × Int)) (t : Nat) (r a : Int) (hr : Addr) (qs : List Addr) (y7 : Option V), σ' = [some (.ref g), some (.ref c), some (.ref fp), some (.ref sp), some (.ref p), some (.int (t : Int)), some (.ref hr), y7, none] ∧ Ex H4 H' ∧ H' p = some (.lst (qs.map V.ref)) ∧ Prs K H' qs f ∧ SqT K H' hr [.int r, .int a] ∧ t < 4 ∧ f.length + m ≤ 201 ∧ walkGo h w cs fr fc m f t r a = some pts)
      200 ⟨[(fr, fc)], 0, fr, fc + 1, hp6, [fp], none, rfl, e5.trans e6, e6 _ _ h5, .cons (h3' ((e4.trans e5).trans e6)) .nil, st_of h6, by decide, by simp, hw⟩ fun m σ' H' hW => ?_
    obtain ⟨f, t, r, a, hr, qs, y7, rfl, e7, h7, hps, hhr, ht, hm, hg⟩ := hW
    have hs7 : SqT K H' g [.int (h : Int), .int (w : Int)] := ex_t ((e3.trans e4).trans e7) hs2
    have hc7 : SqL K H' c (cs.map V.int) := ex_l ((e3.trans e4).trans e7) hc2
    refine ⟨!decide (r = fr ∧ a = fc), et_is (et_test (ev_neD (ed_of (ev_var rfl) (pair_dp hhr)) (ed_of (ev_var rfl) (pair_dp (h3' (e4.trans e7)))) (shaped_dP _ _) (shaped_dP _ _))) (by rw [eqv_dP]), fun hb H8 e8 => ?_, fun hb H8 e8 => ?_⟩
    · have hb' : ¬ (r = fr ∧ a = fc) := by
        rw [Bool.not_eq_true', decide_eq_false_iff_not] at hb
        exact hb
      cases m with
      | zero => cases hg
      | succ m =>
        unfold walkGo at hg
        rw [if_neg hb'] at hg
        cases hwy : ways h w cs r a t with
        | nil => rw [hwy] at hg; cases hg
        | cons y ys =>
          rw [hwy] at hg
          dsimp only at hg
          have yl : y < 4 := ways_lt (by rw [hwy]; exact List.mem_cons_self)
          refine ⟨fun σ2 H2 => ∃ (f : List (Int × Int)) (t : Nat) (r a : Int) (hr : Addr) (qs : List Addr) (y7 : Option V), σ2 = [some (.ref g), some (.ref c), some (.ref fp), some (.ref sp), some (.ref p), some (.int (t : Int)), some (.ref hr), y7, none] ∧ Ex H4 H2 ∧ H2 p = some (.lst (qs.map V.ref)) ∧ Prs K H2 qs f ∧ SqT K H2 hr [.int r, .int a] ∧ t < 4 ∧ f.length + m ≤ 201 ∧ walkGo h w cs fr fc m f t r a = some pts, fun σ2 H2 z => ⟨m, by omega, z⟩, ?_⟩
          have ql := Paired.length hps
          have prm : ∀ {Ha Hb : Hp}, (∀ b o, b ≠ p → Ha b = some o → Hb b = some o) → Ha p = some (.lst (qs.map V.ref)) → ∀ {q : Addr} {u v : V}, SqT K Ha q [u, v] → SqT K Hb q [u, v] := by
            intro Ha Hb k hap q u v sq
            rcases sq with (z | ⟨o, z⟩) | z
            · exact .inl (.inl (k _ _ (ne_of z hap (by intro z; cases z)) z))
            · exact .inl (.inr ⟨o, k _ _ (ne_of z hap (by intro z; cases z)) z⟩)
            · exact .inr z
          refine q_app (K := K) (l := p) (v := .ref hr) (e8 _ _ h7) (ev_var rfl) (ev_var rfl) (by rw [List.length_map, ql]; omega) fun H9 e9 => ?_
          have kp : ∀ b o, b ≠ p → H' b = some o → (upd H9 p (.lst (qs.map V.ref ++ [.ref hr]))) b = some o := fun b o nb hb => by rw [upd_ne nb]; exact e9 _ _ (e8 _ _ hb)
          have ex9 : Ex H4 (upd H9 p (.lst (qs.map V.ref ++ [.ref hr]))) := Ex.mut ((e7.trans e8).trans e9) hp
          have p9 : (upd H9 p (.lst (qs.map V.ref ++ [.ref hr]))) p = some (.lst (qs.map V.ref ++ [.ref hr])) := upd_same
          have hhr9 := prm kp h7 hhr
          have hps9 : Prs K (upd H9 p (.lst (qs.map V.ref ++ [.ref hr]))) (qs ++ [hr]) (f ++ [(r, a)]) := paired_snoc (Paired.mapP hps fun q pr z => prm kp h7 z) hhr9
          generalize upd H9 p (.lst (qs.map V.ref ++ [.ref hr])) = Hn at *
          have hsn : SqT K Hn g [.int (h : Int), .int (w : Int)] := ex_t ((e3.trans e4).trans ex9) hs2
          have hcn : SqL K Hn c (cs.map V.int) := ex_l ((e3.trans e4).trans ex9) hc2
          refine q_asg (i := 7) (v := .int (((t + 2) % 4 : Nat) : Int)) (ev_is (ev_op (x := .int ((t : Int) + 2)) (y := .int 4) (ev_op (x := .int (t : Int)) (y := .int 2) (ev_var rfl) ev_c rv_I0) ev_c (rv_I (by show (0 : Int) < 4; decide))) (by show V.int (((t : Int) + 2) % 4) = _; congr 1)) fun H10 e10 => ?_
          have l := el_lcR (σ := [some (.ref g), some (.ref c), some (.ref fp), some (.ref sp), some (.ref p), some (.int (t : Int)), some (.ref hr), some (.int (((t + 2) % 4 : Nat) : Int)), none]) (H := H10) (t := tAnd (tTest (tOp rNe (tVar 8) (tVar 7))) (tB (tCall (sp_side_ahead K) [] E0 (tCons (tVar 0) (tCons (tVar 1) (tCons (tVar 6) (tCons (tVar 8) tNil))))))) (te := tVar 8) (j := 8) (vs := [8]) (n := 4) (ta := tCons (tC (.int 4)) tNil)
            (fun y => !decide (y = (t + 2) % 4) && sideAhead h w cs r a y) (fun y => V.int (y : Int)) (ea_cons ev_c ea_nil) (by decide) (fun _ => rfl)
            (fun i H11 e11 hi => et_and (et_is (et_test (ev_op (x := .int (i : Int)) (y := .int (((t + 2) % 4 : Nat) : Int)) (ev_var rfl) (ev_var rfl) (rv_ne rfl))) (by rw [Bool.eq_iff_iff]; simp only [Bool.not_eq_true', decide_eq_false_iff_not, V.int.injEq]; omega)) (fun _ => et_B (ev_side_ahead (ea_cons (ev_var rfl) (ea_cons (ev_var rfl) (ea_cons (ev_var rfl) (ea_cons (ev_var rfl) ea_nil)))) (ex_t (e10.trans e11) hsn) gk (ex_l (e10.trans e11) hcn) (ex_t (e10.trans e11) hhr9) hi))) (fun i H11 e11 hi _ => ev_var rfl)
          have lw : (((List.range 4).filter fun (y : Nat) => !decide (y = (t + 2) % 4) && sideAhead h w cs r a y).map fun (y : Nat) => V.int (y : Int)) = (ways h w cs r a t).map fun (y : Nat) => V.int (y : Int) := rfl
          rw [lw, hwy] at l
          refine q_asg (i := 5) (v := .int (y : Int)) (ev_ixS (es_new l) ev_c (atI_nat (j := 0) rfl)) fun H11 e11 => ?_
          obtain ⟨xt, hxt, dxt⟩ := pk yl
          obtain ⟨pt, rfl, spt⟩ := dp_pair dxt
          have hh11 := ex_t (e10.trans e11) hhr9
          have e4n : Ex H4 H11 := ex9.trans (e10.trans e11)
          have sti : Ev (tOp (rIxT K) (tVar 3) (tVar 5)) [some (.ref g), some (.ref c), some (.ref fp), some (.ref sp), some (.ref p), some (.int (y : Int)), some (.ref hr), some (.int (((t + 2) % 4 : Nat) : Int)), none] H11 (.ref pt) := ev_ixT (est_of (ev_var rfl) (ex_t e4n ss)) (ev_var rfl) hxt
          refine s_asgU (i := 6) (xs := [.int (r + (stepOf y).1), .int (a + (stepOf y).2)]) (eu_tup (ea_cons (ev_op (ev_ixT (est_of (ev_var rfl) hh11) ev_c (atI_nat (j := 0) rfl)) (ev_ixT (est_of sti (ex_t e4n spt)) ev_c (atI_nat (j := 0) rfl)) rv_I0) (ea_cons (ev_op (ev_ixT (est_of (ev_var rfl) hh11) ev_c (atI_nat (j := 1) rfl)) (ev_ixT (est_of sti (ex_t e4n spt)) ev_c (atI_nat (j := 1) rfl)) rv_I0) ea_nil)) (by simp)) fun hr' H12 hhr' e12 h12 => ?_
          refine ⟨f ++ [(r, a)], y, _, _, hr', qs ++ [hr], _, rfl, e4n.trans e12, ?_, hps9.mono ((e10.trans e11).trans e12), st_of h12, yl, by rw [List.length_append]; simp; omega, hg⟩
          rw [e12 _ _ (e11 _ _ (e10 _ _ p9)), List.map_append]
          rfl
    · have hb' : r = fr ∧ a = fc := by simpa using hb
      have hpts : f = pts := by
        cases m with
        | zero => cases hg
        | succ m =>
          unfold walkGo at hg
          rw [if_pos hb'] at hg
          exact Option.some.inj hg
      subst hpts
      refine s_ret (ev_var rfl) fun H9 e9 => q _ H9 (b4.trans (e7.trans (e8.trans e9))) ⟨p, qs, rfl, fresh_back b4 hp, e9 _ _ (e8 _ _ h7), hps.mono (e8.trans e9)⟩

/-! ### the script, the law's promise -/
def ScriptOk (ns : List Int) : Prop := ns.length ≤ 63 ∧ ∀ z ∈ ns, Builtin.Int.intBits z ≤ 1048576
def sp_law (K : PySem.W.Frag) : Sp := fun vs H Q _ => ∃ a ns, vs = [.ref a] ∧ SqL K H a ((ns : List Int).map V.int) ∧ ScriptOk ns ∧ ∀ H', Q (.bl true) H'
theorem cutTo (xs : List V) (n : Nat) : cutV xs none (some (n : Int)) = xs.take n := by
  unfold cutV
  rw [HT.sIx_none, HT.sIx_nat, List.drop_zero, Nat.sub_zero]
  rcases Nat.le_total n xs.length with h | h
  · rw [Nat.min_eq_left h]
  · rw [Nat.min_eq_right h, List.take_of_length_le h, List.take_length]
/-- sum(script[:63]) -/
theorem ev_sum63 {K : PySem.W.Frag} {σ : L2.St} {H : Hp} {a : Addr} {ns : List Int} (h0 : σ[0]? = some (some (.ref a))) (hn : SqL K H a (ns.map V.int)) : Ev (tCB (rSum K) (tCons (tSl (rSlL K) (tVar 0) tNoPart (tPart (tC (.int 63)))) tNil)) σ H (.int (ns.take 63).sum) := by
  have sl := el_sl (K := K) (te := tVar 0) (σ := σ) (H := H) (hi := some 63) (ev_var (i := 0) h0) eo_none (eo_some ev_c) hn
  rw [show (some (63 : Int)) = some ((63 : Nat) : Int) from rfl, cutTo, ← List.map_take] at sl
  exact ev_sumS (es_new sl)

/-! ### data that avoids an address; rows copied; answers' classes -/
def del (H : Hp) (l : Addr) : Hp := fun a => if a = l then none else H a
theorem del_self {H : Hp} {l : Addr} : del H l l = none := if_pos rfl
theorem del_ne {H : Hp} {l a : Addr} (h : a ≠ l) : del H l a = H a := if_neg h
theorem del_ex (H : Hp) (l : Addr) : Ex (del H l) H := fun a o h => by
  by_cases e : a = l
  · rw [e, del_self] at h; cases h
  · rw [del_ne e] at h; exact h
theorem del_mono {H H' : Hp} (l : Addr) (e : Ex H H') : Ex (del H l) (del H' l) := fun a o h => by
  by_cases e1 : a = l
  · rw [e1, del_self] at h; cases h
  · rw [del_ne e1] at h ⊢; exact e _ _ h
theorem ex_del {H H' : Hp} {l : Addr} (hl : H l = none) (e : Ex H H') : Ex H (del H' l) := fun a o h => by
  rw [del_ne (ne_of_none h hl)]
  exact e _ _ h
theorem del_upd (H : Hp) (l : Addr) (o : HO) : del (upd H l o) l = del H l := by
  funext a
  by_cases e : a = l
  · rw [e, del_self, del_self]
  · rw [del_ne e, del_ne e, upd_ne e]
mutual
/-- every list in it is shorter than n -/
def shortD (n : Nat) : PyData → Bool
  | .list xs => decide (xs.length < n) && shortAll n xs
  | .tuple xs => shortAll n xs
  | _ => true
def shortAll (n : Nat) : List PyData → Bool
  | [] => true
  | x :: xs => shortD n x && shortAll n xs
end
mutual
theorem dp_del {K : PySem.W.Frag} {H : Hp} {l : Addr} {zs : List V} {n : Nat} (hl : H l = some (.lst zs)) (hz : n ≤ zs.length) : ∀ {v : V} {d : PyData}, Dp K H v d → shortD n d = true → Dp K (del H l) v d
  | _, _, .non, _ => .non
  | _, _, .bl b, _ => .bl b
  | _, _, .int i, _ => .int i
  | _, _, .str x, _ => .str x
  | _, _, @Dp.lst _ _ a xs ds h hs, hn => by
    rw [shortD, Bool.and_eq_true, decide_eq_true_eq] at hn
    have len := dpAll_len hs
    refine .lst ?_ (dpAll_del hl hz hs hn.2)
    rcases h with (h | ⟨o, h⟩) | h
    · have ne : a ≠ l := fun e => by
        rw [e, hl] at h
        have := HO.lst.inj (Option.some.inj h)
        rw [this] at hz
        omega
      exact .inl (.inl (by rw [del_ne ne]; exact h))
    · have ne : a ≠ l := fun e => by rw [e, hl] at h; cases h
      exact .inl (.inr ⟨o, by rw [del_ne ne]; exact h⟩)
    · exact .inr h
  | _, _, @Dp.tup _ _ a xs ds h hs, hn => by
    rw [shortD] at hn
    refine .tup ?_ (dpAll_del hl hz hs hn)
    rcases h with (h | ⟨o, h⟩) | h
    · have ne : a ≠ l := fun e => by rw [e, hl] at h; cases h
      exact .inl (.inl (by rw [del_ne ne]; exact h))
    · have ne : a ≠ l := fun e => by rw [e, hl] at h; cases h
      exact .inl (.inr ⟨o, by rw [del_ne ne]; exact h⟩)
    · exact .inr h
theorem dpAll_del {K : PySem.W.Frag} {H : Hp} {l : Addr} {zs : List V} {n : Nat} (hl : H l = some (.lst zs)) (hz : n ≤ zs.length) : ∀ {vs : List V} {ds : List PyData}, DpAll K H vs ds → shortAll n ds = true → DpAll K (del H l) vs ds
  | _, _, .nil, _ => .nil
  | _, _, .cons h hs, hn => by
    rw [shortAll, Bool.and_eq_true] at hn
    exact .cons (dp_del hl hz h hn.1) (dpAll_del hl hz hs hn.2)
end
theorem dpAll_append {K : PySem.W.Frag} {H : Hp} : ∀ {vs us : List V} {ds es : List PyData}, DpAll K H vs ds → DpAll K H us es → DpAll K H (vs ++ us) (ds ++ es)
  | [], _, [], _, .nil, h => h
  | _ :: _, _, _ :: _, _, .cons g gs, h => .cons g (dpAll_append gs h)
theorem dpAll_get {K : PySem.W.Frag} {H : Hp} : ∀ {vs : List V} {ds : List PyData} {i : Nat} {v : V}, DpAll K H vs ds → vs[i]? = some v → ∃ d, ds[i]? = some d ∧ Dp K H v d
  | _ :: _, _ :: _, 0, _, .cons h _, e => by
    have := Option.some.inj e
    subst this
    exact ⟨_, rfl, h⟩
  | _ :: _, _ :: _, i + 1, v, .cons _ hs, e => dpAll_get (i := i) (v := v) hs e
/-- rows from data -/
theorem ints_of_dp {K : PySem.W.Frag} {H : Hp} : ∀ {vs : List V} {ns : List Int}, DpAll K H vs (ns.map PyData.int) → vs = ns.map V.int
  | _, [], .nil => rfl
  | _, n :: ns, .cons h hs => by
    cases h
    rw [ints_of_dp hs]
    rfl
theorem row_of_dp {K : PySem.W.Frag} {H : Hp} {v : V} {ns : List Int} (h : Dp K H v (dI ns)) : ∃ r, v = .ref r ∧ SqL K H r (ns.map V.int) := by
  unfold dI at h
  cases h with
  | lst hs ha =>
    rw [ints_of_dp ha] at hs
    exact ⟨_, rfl, hs⟩
theorem rows_of_dpAll {K : PySem.W.Frag} {H : Hp} : ∀ {vs : List V} {nss : List (List Int)}, DpAll K H vs (nss.map dI) → ∃ rs, vs = rs.map V.ref ∧ Paired (fun (r : Addr) (ns : List Int) => SqL K H r (ns.map V.int)) rs nss
  | _, [], .nil => ⟨[], rfl, .nil⟩
  | _, ns :: nss, .cons h hs => by
    obtain ⟨r, rfl, hr⟩ := row_of_dp h
    obtain ⟨rs, rfl, hp⟩ := rows_of_dpAll hs
    exact ⟨r :: rs, rfl, .cons hr hp⟩
theorem rows_of_dp {K : PySem.W.Frag} {H : Hp} {v : V} {nss : List (List Int)} (h : Dp K H v (dII nss)) : ∃ a, v = .ref a ∧ RowsAt K H a nss := by
  unfold dII at h
  cases h with
  | lst hs ha =>
    obtain ⟨rs, rfl, hp⟩ := rows_of_dpAll ha
    exact ⟨_, rfl, rs, hs, hp⟩
section
variable {K : PySem.W.Frag} {σ : L2.St} {H H' : Hp} {ta tb te tl : TE} {tr : TA} {t : TT} {D : Ends} {tu tz : TS} {d : PyData} {ds es : List PyData}
/-- [list(row) for row in rows] -/
theorem ep_copyRows {j : Nat} {vs : List Nat} {a : Addr} {nss : List (List Int)} (h : Ev tl σ H (.ref a)) (hr : RowsAt K H a nss) (hz : nss.length ≤ 40000) (hw : ∀ x, wipe ((wipe σ vs).set j (some x)) vs = wipe σ vs) (hj : ∀ x : V, ((wipe σ vs).set j (some x))[j]? = some (some x)) :
    EvP (tLc (iList K tl) (gName j) tYes (tCB (rListS K) (tCons (tVar j) tNil)) vs) σ H (fun H1 v H2 => NewLL H1 v H2 (ints2 nss)) := fun H0 e Q q => h H0 e _ fun H1 e1 => by
  obtain ⟨rs, h1, h2⟩ := hr.mono (e.trans e1)
  have ln : (rs.map V.ref).length = nss.length := by rw [List.length_map]; exact Paired.length h2
  refine ⟨a, rfl, ⟨_, h1⟩, fun Dl hD => lc_list (xs := rs.map V.ref) (fun n H' => H1 Dl = none ∧ Ex H1 H' ∧ ∃ bs : List (Addr × List Int), H' Dl = some (.lst (bs.map toV)) ∧ bs.map (·.2) = nss.take n ∧ ∀ b ∈ bs, (H1 b.1 = none ∧ b.1 ≠ Dl) ∧ H' b.1 = some (.lst (b.2.map V.int))) ⟨hD, Ex.new hD, [], upd_same, rfl, fun b hb => nomatch hb⟩ (fun i H' _ p => ex_l p.2.1 h1) (fun i x H' hi p => ?_) (fun H' p => ?_)⟩
  · rw [List.getElem?_map] at hi
    obtain ⟨r, hri, rfl⟩ := Option.map_eq_some_iff.mp hi
    obtain ⟨ns, hns, hs⟩ := paired_get h2 hri
    obtain ⟨p1, p2, bs, p3, p4, p5⟩ := p
    have bl : bs.length ≤ nss.length := by
      have := congrArg List.length p4
      rw [List.length_map, List.length_take] at this
      omega
    refine ⟨hw _, ?_⟩
    show tCB (rListS K) (tCons (tVar j) tNil) _ H' _
    refine el_listS (K := K) (es_of (ev_var (hj _)) (ex_l p2 hs)) H' (Ex.refl H') _ fun q' H3 hq e3 h3 => ?_
    have ne : q' ≠ Dl := (ne_of_none p3 hq).symm
    refine ⟨_, e3 _ _ p3, sz_lt (by rw [List.length_map]; omega), p1, Ex.mut (p2.trans e3) p1, bs ++ [(q', ns)], ?_, ?_, fun b hb => ?_⟩
    · rw [upd_same, List.map_append]; rfl
    · rw [List.map_append, p4, take_snoc hns]; rfl
    · rcases List.mem_append.mp hb with hb | hb
      · have z := p5 b hb
        refine ⟨z.1, ?_⟩
        rw [upd_ne z.1.2]
        exact e3 _ _ z.2
      · have : b = (q', ns) := by simpa using hb
        subst this
        exact ⟨⟨fresh_back p2 hq, ne⟩, by rw [upd_ne ne]; exact h3⟩
  · rw [ln, List.take_length] at p
    obtain ⟨p1, p2, bs, p3, rfl, p5⟩ := p
    exact q _ H' (e1.trans p2) (NewLL.of (fresh_back e1 p1) p3 fun b hb => ⟨fresh_back e1 (p5 b hb).1.1, (p5 b hb).2⟩)
/-- x = [data, ..] -/
theorem q_asgLD {i : Nat} (h : EvAD K tr σ H ds) (hl : ds.length ≤ 1000) (k : ∀ p vs H1, H p = none → Ex H H1 → H1 p = some (.lst vs) → DpAll K (del H1 p) vs ds → tz D (σ.set i (some (.ref p))) H1) : tSeq (tAsg (tLst tr) (gName i)) tz D σ H :=
  h H (Ex.refl H) _ fun vs H1 e hs => ⟨sz_of (by rw [dpAll_len hs]; omega), fun p hp => k p vs _ (fresh_back e hp) (e.trans (Ex.new hp)) upd_same (by rw [del_upd]; exact DpAll.mono (ex_del hp (Ex.refl H1)) hs)⟩
/-- x = y + [data, ..] -/
theorem s_catLD {i : Nat} {f : Addr} {vs : List V} (hf : H f = some (.lst vs)) (hd : DpAll K (del H f) vs ds) (ha : Ev ta σ H (.ref f)) (h : EvAD K tr σ H es) (hl : ds.length + es.length ≤ 1000) (k : ∀ p us H1, H p = none → Ex H H1 → H1 p = some (.lst us) → DpAll K (del H1 p) us (ds ++ es) → D.nx (σ.set i (some (.ref p))) H1) :
    tAsg (tOp rCat ta (tLst tr)) (gName i) D σ H :=
  ha H (Ex.refl H) _ fun H1 e1 => h H1 e1 _ fun us H2 e2 hs => ⟨sz_of (by rw [dpAll_len hs]; omega), fun b hb => ⟨f, b, vs, us, rfl, rfl, Ex.new hb _ _ (e2 _ _ (e1 _ _ hf)), upd_same, sz_of (by rw [dpAll_len hs, dpAll_len hd]; omega), fun p hp => by
    have e3 : Ex H2 (upd H2 b (.lst us)) := Ex.new hb
    have e13 := (e1.trans e2).trans e3
    refine k p _ _ (fresh_back e13 hp) (e13.trans (Ex.new hp)) upd_same ?_
    rw [del_upd]
    have e4 := ex_del hp (Ex.refl (upd H2 b (.lst us)))
    exact DpAll.mono e4 (dpAll_append (DpAll.mono ((del_ex H f).trans e13) hd) (DpAll.mono e3 hs))⟩⟩
theorem q_catLD {i : Nat} {f : Addr} {vs : List V} (hf : H f = some (.lst vs)) (hd : DpAll K (del H f) vs ds) (ha : Ev ta σ H (.ref f)) (h : EvAD K tr σ H es) (hl : ds.length + es.length ≤ 1000) (k : ∀ p us H1, H p = none → Ex H H1 → H1 p = some (.lst us) → DpAll K (del H1 p) us (ds ++ es) → tz D (σ.set i (some (.ref p))) H1) :
    tSeq (tAsg (tOp rCat ta (tLst tr)) (gName i)) tz D σ H := s_catLD (D := { D with nx := tz D }) hf hd ha h hl k
/-- y + [data, ..] as data -/
theorem ed_cat {f : Addr} {vs : List V} (hf : H f = some (.lst vs)) (hd : DpAll K (del H f) vs ds) (ha : Ev ta σ H (.ref f)) (h : EvAD K tr σ H es) (hl : ds.length + es.length ≤ 1000) : EvD K (tOp rCat ta (tLst tr)) σ H (.list (ds ++ es)) := fun H0 e0 Q q =>
  ha H0 e0 _ fun H1 e1 => h H1 (e0.trans e1) _ fun us H2 e2 hs => ⟨sz_of (by rw [dpAll_len hs]; omega), fun b hb => ⟨f, b, vs, us, rfl, rfl, Ex.new hb _ _ (e2 _ _ (e1 _ _ (e0 _ _ hf))), upd_same, sz_of (by rw [dpAll_len hs, dpAll_len hd]; omega), fun p hp => by
    have e3 : Ex H2 (upd H2 b (.lst us)) := Ex.new hb
    refine q _ _ (((e1.trans e2).trans e3).trans (Ex.new hp)) (.lst (sq_of upd_same) ?_)
    exact DpAll.mono (Ex.new hp) (dpAll_append (DpAll.mono ((del_ex H f).trans (((e0.trans e1).trans e2).trans e3)) hd) (DpAll.mono e3 hs))⟩⟩
/-- xs.append(e), e any result -/
theorem s_appP {l : Addr} {xs : List V} {R : Hp → V → Hp → Prop} (hl : H l = some (.lst xs)) (ha : Ev ta σ H (.ref l)) (h : EvP te σ H R) (hR : ∀ {H0 H1 v H2}, Ex H0 H1 → R H1 v H2 → R H0 v H2) (hz : xs.length < 100000) (k : ∀ v H1, Ex H H1 → R H v H1 → D.nx σ (upd H1 l (.lst (xs ++ [v])))) :
    tDrop (tBM K "list" rAppend ta (tCons te tNil)) D σ H := ha H (Ex.refl H) _ fun H1 e1 =>
  ⟨Or.inl ⟨rfl, xs, sq_of (e1 l _ hl)⟩, h H1 e1 _ fun v H2 e2 z => ⟨l, xs, v, rfl, rfl, e2 l _ (e1 l _ hl), sz_lt hz, k v H2 (e1.trans e2) (hR e1 z)⟩⟩
theorem q_appP {l : Addr} {xs : List V} {R : Hp → V → Hp → Prop} (hl : H l = some (.lst xs)) (ha : Ev ta σ H (.ref l)) (h : EvP te σ H R) (hR : ∀ {H0 H1 v H2}, Ex H0 H1 → R H1 v H2 → R H0 v H2) (hz : xs.length < 100000) (k : ∀ v H1, Ex H H1 → R H v H1 → tz D σ (upd H1 l (.lst (xs ++ [v])))) :
    tSeq (tDrop (tBM K "list" rAppend ta (tCons te tNil))) tz D σ H := s_appP (D := { D with nx := tz D }) hl ha h hR hz k
/-- [e] * k -/
theorem el_rep {n : Nat} {xs : List V} (ha : EvL ta σ H xs) (hb : Ev tb σ H (.int (n : Int))) (hn : n ≤ 1000) (hl : xs.length ≤ 90) : EvL (tOp rRep ta tb) σ H (List.replicate n xs).flatten := fun H1 e Q q =>
  ha H1 e _ fun p H2 hp e2 h2 => hb H2 (e.trans e2) _ fun H3 e3 => ⟨p, (n : Int), xs, rfl, rfl, e3 _ _ h2, by omega, by omega, sz_of (by rw [Int.toNat_natCast]; exact Nat.le_trans (Nat.mul_le_mul hl hn) (by decide)), fun l hl => by
    rw [Int.toNat_natCast]
    exact q l _ (fresh_back (e2.trans e3) hl) ((e2.trans e3).trans (Ex.new hl)) upd_same⟩
end
/-! ### the classes of answers -/
structure Ci (K : PySem.W.Frag) (c : Addr) : Prop where
  cl : Cls K c
  ha : PySem.W.findIn K (.ref c) "__class__" = some (some (.builtin "object.__class__"))
  hn : PySem.W.specialIn K (.builtin "object.__class__") "__get__" = some (some (.builtin "getset_descriptor.__get__"))
  htk : PySem.W.takesIn K (.builtin "object.__class__") = some true
  hm : PySem.W.mroIn K c (.type "object") = some true
theorem Ci.ty {K : PySem.W.Frag} {H : Hp} {a c dx : Addr} {fs : List (Str × V)} (k : Ci K c) (h : H a = some (.ins c dx fs)) : TyX K H (.ref a) (.ref c) := .base (.ins h k.cl k.ha k.hn k.htk k.hm)
theorem ev_isiC {K : PySem.W.Frag} {σ : L2.St} {H : Hp} {ta : TE} {a c dx e : Addr} {fs : List (Str × V)} {b : Bool} (ha : Ev ta σ H (.ref a)) (h : H a = some (.ins c dx fs)) (k : Ci K c) (hk : PySem.W.kitOne K (.ref c) (.ref e) = some b) : Ev (tCB (rIsi K) (tCons ta (tCons (tC (.ref e)) tNil))) σ H (.bl b) :=
  ev_isi ha ev_c (.own e) (fun _ x => k.ty (x _ _ h)) hk
theorem ep_numbersS {K : PySem.W.Frag} {C : Ad} {σ : L2.St} {H : Hp} {ta tb : TE} {E : XK} {h w : Nat} {cs : List Int} (ha : EvST K ta σ H [.int (h : Int), .int (w : Int)]) (gk : GOk h w) (hc : EvS K tb σ H (cs.map V.int)) (ck : COk h w cs) :
    EvP (tCall (sp_numbers K C) [] E (tCons ta (tCons tb tNil))) σ H (fun H1 v H2 => NewLL H1 v H2 (ints2 (numbersOf h w cs))) := fun H1 e Q q =>
  ha H1 e _ fun g H2 e2 hg => hc H2 (e.trans e2) _ fun c H3 e3 hc3 => ⟨_, _, rfl, .inr ⟨g, h, w, rfl, ex_t e3 hg, gk, .inr ⟨c, cs, rfl, hc3, ck, fun v H4 e4 z => q v H4 ((e2.trans e3).trans e4) (z.back (e2.trans e3))⟩⟩⟩
theorem cok_by {h w : Nat} {cs : List Int} (d : (decide (cs ≠ []) && (cs.all fun x => decide (0 ≤ x ∧ x < (h : Int) * w)) && !falls cs) = true) : COk h w cs := by
  simp only [Bool.and_eq_true, decide_eq_true_eq, List.all_eq_true, Bool.not_eq_true'] at d
  exact ⟨d.1.1, fun x hx => d.1.2 x hx, (falls_rising cs).mp d.2⟩
def dPts (pts : List (Int × Int)) : PyData := .list (pts.map fun p => dP p.1 p.2)
theorem dpAll_prs {K : PySem.W.Frag} {H : Hp} : ∀ {qs : List Addr} {pts : List (Int × Int)}, Prs K H qs pts → DpAll K H (qs.map V.ref) (pts.map fun p => dP p.1 p.2)
  | [], [], .nil => .nil
  | _ :: _, _ :: _, .cons h hs => .cons (pair_dp h) (dpAll_prs hs)
theorem NewPts.dp {K : PySem.W.Frag} {pts : List (Int × Int)} {H1 H2 : Hp} {v : V} (h : NewPts K pts H1 v H2) : Dp K H2 v (dPts pts) := by
  obtain ⟨p, qs, rfl, hp, h2, h3⟩ := h
  exact .lst (sq_of h2) (dpAll_prs h3)
theorem walkGo_len {h w : Nat} {cs : List Int} {fr fc : Int} : ∀ (k : Nat) (f : List (Int × Int)) (t : Nat) (r c : Int) {pts : List (Int × Int)}, walkGo h w cs fr fc k f t r c = some pts → pts.length ≤ f.length + k
  | 0, _, _, _, _, _, h => nomatch h
  | k + 1, f, t, r, c, pts, hg => by
    unfold walkGo at hg
    split at hg
    · have := Option.some.inj hg
      rw [← this]
      omega
    · cases hw : ways h w cs r c t with
      | nil => rw [hw] at hg; cases hg
      | cons y ys =>
        rw [hw] at hg
        have := walkGo_len k _ _ _ _ hg
        rw [List.length_append] at this
        simp at this
        omega
theorem walkOf_len {h w : Nat} {cs : List Int} {pts : List (Int × Int)} (hw : walkOf h w cs = some pts) : pts.length ≤ 201 := walkGo_len 200 _ _ _ _ hw
theorem sort_eq {l s : List (List Int)} (hp : l.Perm s) (hs : s.Pairwise (· ≤ ·)) : (l.mergeSort fun p q => decide (p ≤ q)) = s := by
  have p1 : (l.mergeSort fun p q => decide (p ≤ q)).Perm s := (List.mergeSort_perm l _).trans hp
  have s1 : (l.mergeSort fun p q => decide (p ≤ q)).Pairwise (fun a b => decide (a ≤ b) = true) := List.pairwise_mergeSort (fun a b c h1 h2 => by
    simp only [decide_eq_true_eq] at h1 h2 ⊢
    exact List.le_trans h1 h2) (fun a b => by
    simp only [Bool.or_eq_true, decide_eq_true_eq]
    exact List.le_total a b) l
  exact p1.eq_of_pairwise (fun a b _ _ h1 h2 => List.le_antisymm h1 h2) (s1.imp fun h => of_decide_eq_true h) hs

/-! ### lists whose items are told by a predicate; new objects under a list that grows -/
section
variable {K : PySem.W.Frag} {σ : L2.St} {H H' : Hp} {ta tb te tl : TE} {tr : TA} {P P' : Hp → V → Prop}
def Mono (P : Hp → V → Prop) : Prop := ∀ H H' v, Ex H H' → P H v → P H' v
/-- arguments, each with P -/
def EvAX (ta : TA) (σ : L2.St) (H : Hp) (P : Hp → V → Prop) : Prop := ∀ H1, Ex H H1 → ∀ Q : List V → Hp → Prop, (∀ vs H2, Ex H1 H2 → vs.length ≤ 100 → (∀ v ∈ vs, P H2 v) → Q vs H2) → ta σ H1 Q
def EvAXn (ta : TA) (σ : L2.St) (H : Hp) (P : Hp → V → Prop) (n : Nat) : Prop := ∀ H1, Ex H H1 → ∀ Q : List V → Hp → Prop, (∀ vs H2, Ex H1 H2 → vs.length = n → (∀ v ∈ vs, P H2 v) → Q vs H2) → ta σ H1 Q
theorem eax_nil : EvAXn tNil σ H P 0 := fun H1 _ Q q => q [] H1 (Ex.refl H1) rfl fun v hv => nomatch hv
theorem eax_cons {n : Nat} (m : Mono P) (h : EvP te σ H (fun _ v H2 => P H2 v)) (hr : EvAXn tr σ H P n) : EvAXn (tCons te tr) σ H P (n + 1) := fun H1 e Q q =>
  h H1 e _ fun v H2 e2 hv => hr H2 (e.trans e2) _ fun vs H3 e3 hl hvs => q (v :: vs) H3 (e2.trans e3) (by rw [List.length_cons, hl]) fun x hx => by
    rcases List.mem_cons.mp hx with rfl | hx
    · exact m _ _ _ e3 hv
    · exact hvs x hx
/-- a list whose items all have P -/
def InAll (P : Hp → V → Prop) (n : Nat) (H : Hp) (v : V) : Prop := ∃ p xs, v = .ref p ∧ H p = some (.lst xs) ∧ xs.length = n ∧ ∀ x ∈ xs, P H x
theorem InAll.mono {n : Nat} (m : Mono P) : Mono (InAll P n) := fun H H' v e h => by
  obtain ⟨p, xs, rfl, h1, h2, h3⟩ := h
  exact ⟨p, xs, rfl, e _ _ h1, h2, fun x hx => m _ _ _ e (h3 x hx)⟩
theorem ep_lstAll {n : Nat} (m : Mono P) (h : EvAXn tr σ H P n) (hn : n ≤ 1000) : EvP (tLst tr) σ H (fun _ v H2 => InAll P n H2 v) := fun H1 e Q q =>
  h H1 e _ fun vs H2 e2 hl hv => ⟨sz_of (by omega), fun p hp => q _ _ (e2.trans (Ex.new hp)) ⟨p, vs, rfl, upd_same, hl, fun x hx => m _ _ _ (Ex.new hp) (hv x hx)⟩⟩
theorem ep_catAll {n k : Nat} (m : Mono P) (ha : EvP ta σ H (fun _ v H2 => InAll P n H2 v)) (hb : EvP tb σ H (fun _ v H2 => InAll P k H2 v)) (hn : n + k ≤ 1000) : EvP (tOp rCat ta tb) σ H (fun _ v H2 => InAll P (n + k) H2 v) := fun H1 e Q q =>
  ha H1 e _ fun u H2 e2 hu => hb H2 (e.trans e2) _ fun v H3 e3 hv => by
    obtain ⟨p, xs, rfl, p1, p2, p3⟩ := hu
    obtain ⟨r, ys, rfl, r1, r2, r3⟩ := hv
    refine ⟨p, r, xs, ys, rfl, rfl, e3 _ _ p1, r1, sz_of (by omega), fun s hs => q _ _ ((e2.trans e3).trans (Ex.new hs)) ⟨s, xs ++ ys, rfl, upd_same, by rw [List.length_append, p2, r2], fun x hx => ?_⟩⟩
    rcases List.mem_append.mp hx with hx | hx
    · exact m _ _ _ (e3.trans (Ex.new hs)) (p3 x hx)
    · exact m _ _ _ (Ex.new hs) (r3 x hx)
theorem ep_pure {v : V} (h : Ev te σ H v) (hP : ∀ H2, P H2 v) : EvP te σ H (fun _ v H2 => P H2 v) := fun H1 e Q q => h H1 e _ fun H2 e2 => q _ H2 e2 (hP H2)
theorem ep_tupB {xs : List V} (h : EvU te σ H xs) (hP : ∀ H2 a, SqT K H2 a xs → P H2 (.ref a)) : EvP te σ H (fun _ v H2 => P H2 v) := fun H1 e Q q => h H1 e _ fun p H2 hp e2 h2 => q _ H2 e2 (hP H2 p (st_of h2))
theorem ep_lstB {xs : List V} (h : EvL te σ H xs) (hP : ∀ H2 a, SqL K H2 a xs → P H2 (.ref a)) : EvP te σ H (fun _ v H2 => P H2 v) := fun H1 e Q q => h H1 e _ fun p H2 hp e2 h2 => q _ H2 e2 (hP H2 p (sq_of h2))
theorem ep_dicB (hP : ∀ H2 a, H2 a = some (.dK []) → P H2 (.ref a)) : EvP tDNewK σ H (fun _ v H2 => P H2 v) := fun H1 e Q q p hp => q _ _ (Ex.new hp) (hP _ p upd_same)
theorem ep_datB {d : PyData} (h : EvD K te σ H d) (hP : ∀ H2 v, Dp K H2 v d → P H2 v) : EvP te σ H (fun _ v H2 => P H2 v) := fun H1 e Q q => h H1 e _ fun v H2 e2 h2 => q _ H2 e2 (hP H2 v h2)
/-! new objects under a list that grows -/
structure Stab (R : Hp → V → Hp → Prop) : Prop where
  on : ∀ {H1 v H2 H3}, R H1 v H2 → Ex H2 H3 → R H1 v H3
  back : ∀ {H0 H1 v H2}, (∀ a, H1 a = none → H0 a = none) → R H1 v H2 → R H0 v H2
  upd : ∀ {H1 v H2 a o o'}, R H1 v H2 → H1 a = some o → R H1 v (upd H2 a o')
def NewU (us : List V) (H1 : Hp) (v : V) (H2 : Hp) : Prop := ∃ q, v = .ref q ∧ H1 q = none ∧ H2 q = some (.tup us)
def NewL (us : List V) (H1 : Hp) (v : V) (H2 : Hp) : Prop := ∃ q, v = .ref q ∧ H1 q = none ∧ H2 q = some (.lst us)
theorem ne_fresh {H : Hp} {a b : Addr} {o : HO} (h : H a = none) (hb : H b = some o) : a ≠ b := fun z => by subst z; rw [h] at hb; cases hb
theorem stab_U (us : List V) : Stab (NewU us) := by
  refine ⟨fun ⟨q, e, h1, h2⟩ e3 => ⟨q, e, h1, e3 _ _ h2⟩, fun e0 ⟨q, e, h1, h2⟩ => ⟨q, e, e0 _ h1, h2⟩, fun ⟨q, e, h1, h2⟩ ha => ⟨q, e, h1, by rw [upd_ne (ne_fresh h1 ha)]; exact h2⟩⟩
theorem stab_L (us : List V) : Stab (NewL us) := by
  refine ⟨fun ⟨q, e, h1, h2⟩ e3 => ⟨q, e, h1, e3 _ _ h2⟩, fun e0 ⟨q, e, h1, h2⟩ => ⟨q, e, e0 _ h1, h2⟩, fun ⟨q, e, h1, h2⟩ ha => ⟨q, e, h1, by rw [upd_ne (ne_fresh h1 ha)]; exact h2⟩⟩
theorem stab_LL (xss : List (List V)) : Stab (fun H1 v H2 => NewLL H1 v H2 xss) := by
  refine ⟨fun h e3 => h.on e3, fun {H0 H1 v H2} e0 h => ?_, fun {H1 v H2 a o o'} h ha => ?_⟩
  · obtain ⟨p, ps, rfl, h1, h2, h3⟩ := h
    exact ⟨p, ps, rfl, e0 _ h1, h2, Paired.mapP h3 fun q xs z => ⟨e0 _ z.1, z.2⟩⟩
  obtain ⟨p, ps, rfl, h1, h2, h3⟩ := h
  exact ⟨p, ps, rfl, h1, by rw [upd_ne (ne_fresh h1 ha)]; exact h2, Paired.mapP h3 fun q xs z => ⟨z.1, by rw [upd_ne (ne_fresh z.1 ha)]; exact z.2⟩⟩
theorem ep_U {xs : List V} (h : EvU te σ H xs) : EvP te σ H (NewU xs) := fun H1 e Q q => h H1 e _ fun p H2 hp e2 h2 => q _ H2 e2 ⟨p, rfl, hp, h2⟩
theorem ep_L {xs : List V} (h : EvL te σ H xs) : EvP te σ H (NewL xs) := fun H1 e Q q => h H1 e _ fun p H2 hp e2 h2 => q _ H2 e2 ⟨p, rfl, hp, h2⟩
/-- [[..]], [[..], [..]] -/
theorem ep_LL1 {xs : List V} (h : EvL ta σ H xs) : EvP (tLst (tCons ta tNil)) σ H (fun H1 v H2 => NewLL H1 v H2 [xs]) := fun H1 e Q q =>
  h H1 e _ fun p H2 hp e2 h2 => ⟨sz_of (by simp), fun r hr => q _ _ (e2.trans (Ex.new hr)) ⟨r, [p], rfl, fresh_back e2 hr, upd_same, .cons ⟨hp, Ex.new hr _ _ h2⟩ .nil⟩⟩
theorem ep_LL2 {xs ys : List V} (h : EvL ta σ H xs) (h' : EvL tb σ H ys) : EvP (tLst (tCons ta (tCons tb tNil))) σ H (fun H1 v H2 => NewLL H1 v H2 [xs, ys]) := fun H1 e Q q =>
  h H1 e _ fun p H2 hp e2 h2 => h' H2 (e.trans e2) _ fun s H3 hs e3 h3 => ⟨sz_of (by simp), fun r hr => q _ _ ((e2.trans e3).trans (Ex.new hr)) ⟨r, [p, s], rfl, fresh_back (e2.trans e3) hr, upd_same, .cons ⟨hp, Ex.new hr _ _ (e3 _ _ h2)⟩ (.cons ⟨fresh_back e2 hs, Ex.new hr _ _ h3⟩ .nil)⟩⟩
/-- [a new object for x in xs] -/
theorem ep_lcX {R : V → Hp → V → Hp → Prop} {j : Nat} {vs : List Nat} {xs : List V} (st : ∀ x, Stab (R x)) (h : EvS K tl σ H xs) (hz : xs.length ≤ 1000) (hw : ∀ x, wipe ((wipe σ vs).set j (some x)) vs = wipe σ vs)
    (he : ∀ x ∈ xs, ∀ H1, Ex H H1 → EvP te ((wipe σ vs).set j (some x)) H1 (R x)) :
    EvP (tLc (iList K tl) (gName j) tYes te vs) σ H (fun H1 v H2 => ∃ p ys, v = .ref p ∧ H2 p = some (.lst ys) ∧ Paired (fun y x => R x H1 y H2) ys xs) := fun H0 e Q q => h H0 e _ fun a H1 e1 ha => ⟨a, rfl, ⟨_, ha⟩, fun Dl hD => by
  have hd0 : ∀ a, (upd H1 Dl (.lst [])) a = none → H1 a = none := fun a h => by
    have : a ≠ Dl := fun z => by rw [z, upd_same] at h; cases h
    rw [upd_ne this] at h
    exact h
  refine lc_list (xs := xs) (fun n H' => H1 Dl = none ∧ Ex H1 H' ∧ ∃ ys, H' Dl = some (.lst ys) ∧ Paired (fun y x => R x (upd H1 Dl (.lst [])) y H') ys (xs.take n)) ⟨hD, Ex.new hD, [], upd_same, .nil⟩ (fun n H' _ p => ex_l p.2.1 ha) (fun n x H' hi p => ?_) (fun H' p => ?_)
  · obtain ⟨p1, p2, ys, p3, p4⟩ := p
    refine ⟨hw _, ?_⟩
    have yl := Paired.length p4
    rw [List.length_take] at yl
    have hm : x ∈ xs := List.mem_of_getElem? hi
    have dom : ∀ a, H' a = none → (upd H1 Dl (.lst [])) a = none := fun a h => by
      have : a ≠ Dl := fun z => by rw [z, p3] at h; cases h
      rw [upd_ne this]
      exact fresh_back p2 h
    show te _ _ _
    refine he x hm H1 (e.trans e1) H' p2 _ fun y H4 e4 hy => ⟨ys, e4 _ _ p3, sz_lt (by omega), p1, Ex.mut (p2.trans e4) p1, ys ++ [y], upd_same, ?_⟩
    rw [take_snoc hi]
    exact paired_snoc (Paired.mapP p4 fun y' x' hr => (st x').upd ((st x').on hr e4) upd_same) ((st x).upd ((st x).back dom hy) upd_same)
  · obtain ⟨p1, p2, ys, p3, p4⟩ := p
    rw [List.take_length] at p4
    exact q _ H' (e1.trans p2) ⟨Dl, ys, rfl, p3, Paired.mapP p4 fun y x hr => (st x).back (fun a h => fresh_back e1 (hd0 a h)) hr⟩⟩
end
/-- isinstance of the caught error -/
theorem ev_isX {K : PySem.W.Frag} {σ : L2.St} {H : Hp} {i : Nat} {a D e : Addr} {b : Bool} (hi : σ[i]? = some (some (.ref a))) (ex : ExcC K D) (k : PySem.W.kitOne K (.ref D) (.ref e) = some b) : Ev (tCB (rIsX K (.ref D) none a) (tCons (tVar i) (tCons (tC (.ref e)) tNil))) σ H (.bl b) := fun H1 e1 Q q =>
  (ev_var (H := H) hi) H1 e1 _ fun H2 e2 => ⟨D, rfl, rfl, ex, .ref e, .ref e, b, rfl, fun u r => by cases r; rfl, k, q H2 e2⟩
theorem ev_isV {K : PySem.W.Frag} {σ : L2.St} {H : Hp} {i : Nat} {a D : Addr} {b : Bool} (hi : σ[i]? = some (some (.ref a))) (ex : ExcC K D) (k : PySem.W.kitOne K (.ref D) (.type "ValueError") = some b) : Ev (tCB (rIsX K (.ref D) none a) (tCons (tVar i) (tCons (tC (.ty "ValueError")) tNil))) σ H (.bl b) := fun H1 e1 Q q =>
  (ev_var (H := H) hi) H1 e1 _ fun H2 e2 => ⟨D, rfl, rfl, ex, .ty "ValueError", .type "ValueError", b, rfl, fun u r => by cases r; rfl, k, q H2 e2⟩
theorem RetE.mono {c : Addr} {H H' : Hp} {E : XK} (e : Ex H H') (h : RetE c H E) : RetE c H' E := fun H2 e2 => h H2 (e.trans e2)
theorem tif_of {t : TT} {ta tb : TE} {σ : L2.St} {H : Hp} {Q : VK} {b : Bool} (h : EvT t σ H b) (h1 : ∀ H1, Ex H H1 → ta σ H1 Q) (h2 : ∀ H1, Ex H H1 → tb σ H1 Q) : tIf t ta tb σ H Q := h H (Ex.refl H) _ fun H1 e => by
  cases b with
  | true => exact h1 H1 e
  | false => exact h2 H1 e
theorem call_bad2 {K : PySem.W.Frag} {sp : Sp} {E : XK} {σ : L2.St} {H : Hp} {Q : VK} {ta tb : TE} {xs : List V} {v : V} (ha : EvST K ta σ H xs) (hb : Ev tb σ H v) (h : ∀ g H1, Ex H H1 → SqT K H1 g xs → sp [.ref g, v] H1 Q E) : tCall sp [] E (tCons ta (tCons tb tNil)) σ H Q :=
  ha H (Ex.refl H) _ fun g H1 e1 hg => hb H1 e1 _ fun H2 e2 => h g H2 (e1.trans e2) (ex_t e2 hg)
theorem dpAll_bls {K : PySem.W.Frag} {H : Hp} : ∀ bs : List Bool, DpAll K H (bs.map V.bl) (bs.map PyData.bool)
  | [] => .nil
  | b :: r => .cons (.bl b) (dpAll_bls r)
theorem ed_bls {K : PySem.W.Frag} {σ : L2.St} {H : Hp} {te : TE} {bs : List Bool} (h : EvL te σ H (bs.map V.bl)) : EvD K te σ H (.list (bs.map PyData.bool)) := fun H2 e2 Q' q' => h H2 e2 _ fun r H3 hr e3 h3 => q' _ H3 e3 (.lst (sq_of h3) (dpAll_bls bs))
theorem lay_bls : ∀ bs : List Bool, PyData.canLayAll0 (bs.map PyData.bool) = true
  | [] => rfl
  | b :: r => by rw [List.map_cons, PyData.canLayAll0, lay_bls r]; rfl
theorem depth_bls : ∀ bs : List Bool, PyData.depthAll (bs.map PyData.bool) = 0
  | [] => by simp [PyData.depthAll]
  | b :: r => by simp [PyData.depthAll, PyData.depth, depth_bls r]
theorem shaped_bls (bs : List Bool) : SeqAt.shaped (.list (bs.map PyData.bool)) = true := shaped_of_len (lay_bls bs) (by rw [depth_bls]; decide)

/-! ### answers as they stand, and their own word -/
def TldAt (K : PySem.W.Frag) (C : Ad) (H : Hp) (v : V) : Tld → Prop
  | .never => ∃ p dx, v = .ref p ∧ H p = some (.ins C.cNever dx [])
  | .one a => ∃ p dx l, v = .ref p ∧ H p = some (.ins C.cOne dx (fldsC (.ref l))) ∧ SqL K H l (a.map V.int)
  | .two a b => ∃ p dx l m, v = .ref p ∧ H p = some (.ins C.cTwo dx (flds2 (.ref l) (.ref m))) ∧ SqL K H l (a.map V.int) ∧ SqL K H m (b.map V.int)
theorem TldAt.mono {K : PySem.W.Frag} {C : Ad} {H H' : Hp} {v : V} {t : Tld} (e : Ex H H') (h : TldAt K C H v t) : TldAt K C H' v t := by
  cases t with
  | never =>
    obtain ⟨p, dx, rfl, h⟩ := h
    exact ⟨p, dx, rfl, e _ _ h⟩
  | one a =>
    obtain ⟨p, dx, l, rfl, h, h1⟩ := h
    exact ⟨p, dx, l, rfl, e _ _ h, ex_l e h1⟩
  | two a b =>
    obtain ⟨p, dx, l, m, rfl, h, h1, h2⟩ := h
    exact ⟨p, dx, l, m, rfl, e _ _ h, ex_l e h1, ex_l e h2⟩
theorem NewTold.at {K : PySem.W.Frag} {C : Ad} {H1 H2 : Hp} {v : V} {t : Tld} (h : NewTold C t H1 v H2) : TldAt K C H2 v t := by
  cases t with
  | never =>
    obtain ⟨p, dx, rfl, _, h⟩ := h
    exact ⟨p, dx, rfl, h⟩
  | one a =>
    obtain ⟨p, dx, l, rfl, _, _, h, h1⟩ := h
    exact ⟨p, dx, l, rfl, h, sq_of h1⟩
  | two a b =>
    obtain ⟨p, dx, l, m, rfl, _, _, _, _, h, h1, h2⟩ := h
    exact ⟨p, dx, l, m, rfl, h, sq_of h1, sq_of h2⟩
def showsC (nss : List (List Int)) : Tld → Bool
  | .never => decide (fittingOf nss = [])
  | .one a => decide (fittingOf nss = [a])
  | .two a b => twoShows nss a b
theorem toldM_shows (nss : List (List Int)) (hd : (fittingOf nss).Nodup) : showsC nss (toldM nss) = true := by
  unfold toldM
  cases h : fittingOf nss with
  | nil => exact decide_eq_true h
  | cons a r =>
    cases r with
    | nil => exact decide_eq_true h
    | cons b r =>
      show twoShows nss a b = true
      unfold twoShows
      rw [h] at hd ⊢
      have : a ≠ b := fun e => (List.nodup_cons.mp hd).1 (by rw [e]; exact List.mem_cons_self)
      simp [this]
section
variable {K : PySem.W.Frag} {C : Ad} {σ : L2.St} {H : Hp} {ta tb tc : TE} {v : V} {a g c : Addr}
theorem ev_showsC {t : Tld} {nss : List (List Int)} (ha : Ev ta σ H v) (h : TldAt K C H v t) (hb : Ev tb σ H (.ref a)) (hr : RowsAt K H a nss) (ck : CluesR nss) :
    Ev (tAlt (tMeth C.cOne "shows" (sp_One_shows K C) [] E0 ta (tCons tb tNil)) (tAlt (tMeth C.cTwo "shows" (sp_Two_shows K C) [] E0 ta (tCons tb tNil)) (tMeth C.cNever "shows" (sp_Never_shows K) [] E0 ta (tCons tb tNil)))) σ H (.bl (showsC nss t)) := fun H1 e Q q => by
  cases t with
  | one ns =>
    refine .inl (ha H1 e _ fun H2 e2 => ?_)
    obtain ⟨p, dx, l, rfl, h1, h2⟩ := h.mono (e.trans e2)
    exact ⟨p, dx, _, rfl, h1, fldsC_shows, hb H2 (e.trans e2) _ fun H3 e3 => ⟨p, a, dx, l, nss, ns, rfl, e3 _ _ h1, ex_l e3 h2, hr.mono ((e.trans e2).trans e3), ck, fun H4 e4 => q H4 ((e2.trans e3).trans e4)⟩⟩
  | two ns ms =>
    refine .inr (.inl (ha H1 e _ fun H2 e2 => ?_))
    obtain ⟨p, dx, l, m, rfl, h1, h2, h3⟩ := h.mono (e.trans e2)
    exact ⟨p, dx, _, rfl, h1, flds2_shows, hb H2 (e.trans e2) _ fun H3 e3 => ⟨p, a, dx, l, m, nss, ns, ms, rfl, e3 _ _ h1, ex_l e3 h2, ex_l e3 h3, hr.mono ((e.trans e2).trans e3), ck, fun H4 e4 => q H4 ((e2.trans e3).trans e4)⟩⟩
  | never =>
    refine .inr (.inr (ha H1 e _ fun H2 e2 => ?_))
    obtain ⟨p, dx, rfl, h1⟩ := h.mono (e.trans e2)
    exact ⟨p, dx, _, rfl, h1, rfl, hb H2 (e.trans e2) _ fun H3 e3 => ⟨p, a, nss, rfl, hr.mono ((e.trans e2).trans e3), ck, fun H4 e4 => q H4 ((e2.trans e3).trans e4)⟩⟩
end
def AnsAt (C : Ad) (H : Hp) (v : V) : Ans → Prop
  | .ring => ∃ p dx, v = .ref p ∧ H p = some (.ins C.cRing dx [])
  | .split x y => ∃ p dx, v = .ref p ∧ H p = some (.ins C.cSplit dx (flds2 (.int x) (.int y)))
  | .hole x => ∃ p dx, v = .ref p ∧ H p = some (.ins C.cHole dx (flds1 (.int x)))
theorem AnsAt.mono {C : Ad} {H H' : Hp} {v : V} {t : Ans} (e : Ex H H') (h : AnsAt C H v t) : AnsAt C H' v t := by
  cases t <;> (obtain ⟨p, dx, rfl, h⟩ := h; exact ⟨p, dx, rfl, e _ _ h⟩)
theorem NewAns.at {C : Ad} {H1 H2 : Hp} {v : V} {t : Ans} (h : NewAns C t H1 v H2) : AnsAt C H2 v t := by
  cases t <;> (obtain ⟨p, dx, rfl, _, h⟩ := h; exact ⟨p, dx, rfl, h⟩)
def showsG (h w : Nat) (cs : List Int) : Ans → Bool
  | .ring => isRing h w cs
  | .split x y => splitShows h w cs x y
  | .hole x => holeShows h w cs x
section
variable {K : PySem.W.Frag} {C : Ad} {σ : L2.St} {H : Hp} {ta tb tc : TE} {v : V} {h w : Nat} {cs : List Int}
theorem ev_showsG {t : Ans} (ha : Ev ta σ H v) (h0 : AnsAt C H v t) (hb : EvST K tb σ H [.int (h : Int), .int (w : Int)]) (gk : GOk h w) (hc : EvS K tc σ H (cs.map V.int)) (hn : cs ≠ []) (hl : cs.length ≤ 1000) :
    Ev (tAlt (tMeth C.cRing "shows" (sp_Ring_shows K) [] E0 ta (tCons tb (tCons tc tNil))) (tAlt (tMeth C.cSplit "shows" (sp_Split_shows K C) [] E0 ta (tCons tb (tCons tc tNil))) (tMeth C.cHole "shows" (sp_Hole_shows K C) [] E0 ta (tCons tb (tCons tc tNil))))) σ H (.bl (showsG h w cs t)) := fun H1 e Q q => by
  cases t with
  | ring =>
    refine .inl (ha H1 e _ fun H2 e2 => ?_)
    obtain ⟨p, dx, rfl, h1⟩ := h0.mono (e.trans e2)
    exact ⟨p, dx, _, rfl, h1, rfl, hb H2 (e.trans e2) _ fun g H3 e3 hg => hc H3 ((e.trans e2).trans e3) _ fun c H4 e4 hc4 => ⟨p, g, c, h, w, cs, rfl, ex_t e4 hg, gk, hc4, hn, hl, fun H5 e5 => q H5 (((e2.trans e3).trans e4).trans e5)⟩⟩
  | split x y =>
    refine .inr (.inl (ha H1 e _ fun H2 e2 => ?_))
    obtain ⟨p, dx, rfl, h1⟩ := h0.mono (e.trans e2)
    exact ⟨p, dx, _, rfl, h1, flds2_shows, hb H2 (e.trans e2) _ fun g H3 e3 hg => hc H3 ((e.trans e2).trans e3) _ fun c H4 e4 hc4 => ⟨p, g, c, h, w, cs, dx, x, y, rfl, e4 _ _ (e3 _ _ h1), ex_t e4 hg, gk, hc4, hl, fun H5 e5 => q H5 (((e2.trans e3).trans e4).trans e5)⟩⟩
  | hole x =>
    refine .inr (.inr (ha H1 e _ fun H2 e2 => ?_))
    obtain ⟨p, dx, rfl, h1⟩ := h0.mono (e.trans e2)
    exact ⟨p, dx, _, rfl, h1, flds1_shows, hb H2 (e.trans e2) _ fun g H3 e3 hg => hc H3 ((e.trans e2).trans e3) _ fun c H4 e4 hc4 => ⟨p, g, c, h, w, cs, dx, x, rfl, e4 _ _ (e3 _ _ h1), ex_t e4 hg, gk, hc4, fun H5 e5 => q H5 (((e2.trans e3).trans e4).trans e5)⟩⟩
end
/-! ### rising lists of lists are listed once -/
theorem cellsOf_inj {m j k : Nat} (hj : j < 2 ^ m) (hk : k < 2 ^ m) (e : cellsOf m j = cellsOf m k) : j = k := by
  have bit : ∀ c < m, j / 2 ^ c % 2 = k / 2 ^ c % 2 := fun c hc => by
    have mem : ∀ n, (c : Int) ∈ cellsOf m n ↔ n / 2 ^ c % 2 = 1 := fun n => by
      unfold cellsOf
      simp only [List.mem_map, List.mem_filter, List.mem_range, decide_eq_true_eq]
      constructor
      · rintro ⟨c', ⟨_, h⟩, e'⟩
        have : c' = c := by omega
        rw [← this]
        exact h
      · exact fun h => ⟨c, ⟨hc, h⟩, rfl⟩
    have h1 := mem j
    have h2 := mem k
    rw [e] at h1
    have : j / 2 ^ c % 2 = 1 ↔ k / 2 ^ c % 2 = 1 := h1.symm.trans h2
    omega
  have key : ∀ n, n ≤ m → j % 2 ^ n = k % 2 ^ n := by
    intro n
    induction n with
    | zero => intro _; simp [Nat.mod_one]
    | succ n ih =>
      intro hn
      rw [Nat.pow_succ, Nat.mod_mul, Nat.mod_mul, ih (by omega), bit n (by omega)]
  have := key m (Nat.le_refl m)
  rwa [Nat.mod_eq_of_lt hj, Nat.mod_eq_of_lt hk] at this
theorem ringsTo_nodup (h w i : Nat) (hi : i < 2 ^ (h * w)) : (ringsTo h w i).Nodup := by
  unfold ringsTo
  refine List.Pairwise.filter _ ?_
  rw [List.pairwise_map]
  refine List.Pairwise.imp_of_mem (R := fun a b => a < b) (fun {a b} ha hb hlt e => ?_) List.pairwise_lt_range
  have := List.mem_range.mp ha
  have := List.mem_range.mp hb
  have := cellsOf_inj (by omega) (by omega) e
  omega
theorem allRings_nodup (h w : Nat) : (allRings h w).Nodup := by
  unfold allRings
  have p : 1 ≤ 2 ^ (h * w) := Nat.one_le_two_pow
  exact (List.mergeSort_perm _ _).nodup_iff.mpr (ringsTo_nodup h w _ (by omega))
theorem fittingOf_nodup (nss : List (List Int)) : (fittingOf nss).Nodup := (allRings_nodup _ _).filter _
theorem told_shows (nss : List (List Int)) : showsC nss (toldM nss) = true := toldM_shows nss (fittingOf_nodup nss)
/-! ### clues written in place -/
section
variable {K : PySem.W.Frag} {C : Ad} {σ : L2.St} {H : Hp} {ta : TE} {E : XK} {nss : List (List Int)}
theorem ep_fittingD (ha : EvD K ta σ H (dII nss)) (hb : cluesB nss = true) : EvP (tCall (sp_fitting K C) [] E (tCons ta tNil)) σ H (fun H1 v H2 => NewLL H1 v H2 (ints2 (fittingOf nss))) := fun H1 e Q q =>
  ha H1 e _ fun v H2 e2 hv => by
    obtain ⟨a, rfl, hr⟩ := rows_of_dp hv
    exact ⟨_, rfl, doorC_good hr hb ⟨nss, hr, cluesB_R hb, fun v H3 e3 z => q v H3 (e2.trans e3) (z.back e2)⟩⟩
theorem ep_toldD (ha : EvD K ta σ H (dII nss)) (hb : cluesB nss = true) : EvP (tCall (sp_told K C) [] E (tCons ta tNil)) σ H (NewTold C (toldM nss)) := fun H1 e Q q =>
  ha H1 e _ fun v H2 e2 hv => by
    obtain ⟨a, rfl, hr⟩ := rows_of_dp hv
    exact ⟨_, rfl, doorC_good hr hb ⟨nss, hr, cluesB_R hb, fun v H3 e3 z => q v H3 (e2.trans e3) (z.back e2)⟩⟩
end

/-! ### k11: what stays when lambdas are made; plain data that are refused; a refusal's word -/
open LamX NdefX
section
variable {K : PySem.W.Frag} {H H' : Hp} {v : V}
theorem rd_N {a : Addr} {o : HO} (e : ExtN H H') (hn : ∀ ps, o ≠ .tbl ps) (h : Rd H a o) : Rd H' a o := by
  rcases h with h | ⟨ob, h⟩
  · exact .inl (e _ _ h hn)
  · exact .inr ⟨ob, e _ _ h fun ps z => nomatch z⟩
theorem sql_N {a : Addr} {xs : List V} (e : ExtN H H') (h : SqL K H a xs) : SqL K H' a xs := h.imp (rd_N e fun _ z => nomatch z) id
theorem sqt_N {a : Addr} {xs : List V} (e : ExtN H H') (h : SqT K H a xs) : SqT K H' a xs := h.imp (rd_N e fun _ z => nomatch z) id
mutual
theorem Dp.monoN (e : ExtN H H') : ∀ {v : V} {d : PyData}, Dp K H v d → Dp K H' v d
  | _, _, .non => .non
  | _, _, .bl b => .bl b
  | _, _, .int i => .int i
  | _, _, .str x => .str x
  | _, _, .lst h hs => .lst (sql_N e h) (DpAll.monoN e hs)
  | _, _, .tup h hs => .tup (sqt_N e h) (DpAll.monoN e hs)
theorem DpAll.monoN (e : ExtN H H') : ∀ {vs : List V} {ds : List PyData}, DpAll K H vs ds → DpAll K H' vs ds
  | _, _, .nil => .nil
  | _, _, .cons h hs => .cons (Dp.monoN e h) (DpAll.monoN e hs)
end
theorem not_list_dp {d : PyData} (h : Dp K H v d) (hd : ∀ ds, d ≠ .list ds) : ∃ n, Known K H v n ∧ n ≠ "list" := by
  cases h with
  | non => exact ⟨_, ⟨.base .non, by decide⟩, by decide⟩
  | bl b => exact ⟨_, ⟨.base (.bl b), by decide⟩, by decide⟩
  | int i => exact ⟨_, known_int i, by decide⟩
  | str x => exact ⟨_, ⟨.base (.str x), by decide⟩, by decide⟩
  | lst h hs => exact absurd rfl (hd _)
  | tup h hs => exact ⟨_, ⟨ty_tuple h, by decide⟩, by decide⟩
theorem not_tup_dp {d : PyData} (h : Dp K H v d) (hd : ∀ ds, d ≠ .tuple ds) : ∃ n, Known K H v n ∧ n ≠ "tuple" := by
  cases h with
  | non => exact ⟨_, ⟨.base .non, by decide⟩, by decide⟩
  | bl b => exact ⟨_, ⟨.base (.bl b), by decide⟩, by decide⟩
  | int i => exact ⟨_, known_int i, by decide⟩
  | str x => exact ⟨_, ⟨.base (.str x), by decide⟩, by decide⟩
  | lst h hs => exact ⟨_, ⟨ty_list h, by decide⟩, by decide⟩
  | tup h hs => exact absurd rfl (hd _)
theorem known_all {xs : List V} {ds : List PyData} (h : DpAll K H xs ds) : ∀ x ∈ xs, ∃ n, Known K H x n := by
  induction xs generalizing ds with
  | nil => intro x hx; cases hx
  | cons y r ih =>
    cases h with
    | cons h1 h2 =>
      intro x hx
      rcases List.mem_cons.mp hx with rfl | hx
      · exact known_dp h1
      · exact ih h2 x hx
theorem len_dpAll {xs : List V} {ds : List PyData} (h : DpAll K H xs ds) : xs.length = ds.length := by
  induction xs generalizing ds with
  | nil => cases h; rfl
  | cons y r ih => cases h with | cons h1 h2 => rw [List.length_cons, List.length_cons, ih h2]
/-! what is said of data -/
def inD (lo hi : Int) : PyData → Bool
  | .int n => decide (lo ≤ n) && decide (n ≤ hi)
  | _ => false
theorem inD_eq {lo hi : Int} {d : PyData} (h : Dp K H v d) : inRange lo hi v = inD lo hi d := by cases h <;> rfl
theorem all_inD {lo hi : Int} {xs : List V} {ds : List PyData} (h : DpAll K H xs ds) : xs.all (inRange lo hi) = ds.all (inD lo hi) := by
  induction xs generalizing ds with
  | nil => cases h; rfl
  | cons y r ih => cases h with | cons h1 h2 => rw [List.all_cons, List.all_cons, ih h2, inD_eq h1]
def cellD (m : Int) : PyData → Bool
  | .int n => decide (0 ≤ n) && decide (n < m)
  | _ => false
theorem all_cellD {m : Int} {xs : List V} {ds : List PyData} (h : DpAll K H xs ds) : xs.all (inCells m) = ds.all (cellD m) := by
  induction xs generalizing ds with
  | nil => cases h; rfl
  | cons y r ih =>
    cases h with
    | cons h1 h2 =>
      rw [List.all_cons, List.all_cons, ih h2]
      congr 1
      cases h1 <;> rfl
def intsD : List PyData → Option (List Int)
  | [] => some []
  | .int n :: r => (intsD r).map fun l => n :: l
  | _ => none
theorem intsD_eq : ∀ {ds : List PyData} {ns : List Int}, intsD ds = some ns → ds = ns.map PyData.int
  | [], ns, h => by cases h; rfl
  | .int n :: r, ns, h => by
    rw [intsD] at h
    obtain ⟨l, hl, rfl⟩ := Option.map_eq_some_iff.mp h
    rw [intsD_eq hl]
    rfl
  | .none :: _, _, h => by cases h
  | .bool _ :: _, _, h => by cases h
  | .str _ :: _, _, h => by cases h
  | .list _ :: _, _, h => by cases h
  | .tuple _ :: _, _, h => by cases h
def layD (ds : List PyData) : Bool := PyData.canLayAll0 ds && decide (PyData.depthAll ds ≤ 63)
theorem shaped_lay {ds : List PyData} (h : layD ds = true) : SeqAt.shaped (.list ds) = true := by
  unfold layD at h
  simp only [Bool.and_eq_true, decide_eq_true_eq] at h
  exact shaped_of_len h.1 h.2
def badCD (m : Int) : PyData → Bool
  | .list ds => layD ds && decide (ds.length ≤ 1000) && (ds.isEmpty || !ds.all (cellD m) || (match intsD ds with | some ns => !decide (ns.Pairwise (· < ·)) | none => false))
  | _ => true
theorem badC_dp {m : Int} {d : PyData} (h : Dp K H v d) (hb : badCD m d = true) : BadC K H m v := by
  by_cases hl : ∃ ds, d = .list ds
  · obtain ⟨ds, rfl⟩ := hl
    cases h with
    | lst hs ha =>
      rw [badCD] at hb
      simp only [Bool.and_eq_true, Bool.or_eq_true, decide_eq_true_eq, Bool.not_eq_true'] at hb
      obtain ⟨⟨h1, h2⟩, h3⟩ := hb
      refine .inr ⟨_, _, ds, rfl, hs, ha, shaped_lay h1, by rw [len_dpAll ha]; exact h2, ?_⟩
      rcases h3 with (h3 | h3) | h3
      · refine .inl (List.length_eq_zero_iff.mp ?_)
        rw [len_dpAll ha, List.isEmpty_iff.mp h3]
        rfl
      · exact .inr (.inl (by rw [all_cellD ha]; exact h3))
      · cases hi : intsD ds with
        | none => rw [hi] at h3; cases h3
        | some ns =>
          rw [hi] at h3
          simp only [Bool.not_eq_true', decide_eq_false_iff_not] at h3
          have e := intsD_eq hi
          subst e
          exact .inr (.inr ⟨ns, ints_of_dp ha, h3⟩)
  · exact .inl (not_list_dp h fun ds z => hl ⟨ds, z⟩)
def badGD : PyData → Bool
  | .tuple ds => decide (ds.length ≤ 1000) && (!decide (ds.length = 2) || !ds.all (inD 1 6))
  | _ => true
theorem badG_dp {d : PyData} (h : Dp K H v d) (hb : badGD d = true) : BadG K H v := by
  by_cases hl : ∃ ds, d = .tuple ds
  · obtain ⟨ds, rfl⟩ := hl
    cases h with
    | tup hs ha =>
      rw [badGD] at hb
      simp only [Bool.and_eq_true, Bool.or_eq_true, decide_eq_true_eq, Bool.not_eq_true', decide_eq_false_iff_not] at hb
      refine .inr ⟨_, _, rfl, hs, by rw [len_dpAll ha]; exact hb.1, known_all ha, ?_⟩
      rcases hb.2 with h2 | h2
      · exact .inl (by rw [len_dpAll ha]; exact h2)
      · rw [← all_inD ha] at h2
        obtain ⟨x, hx, hx2⟩ := List.all_eq_false.mp h2
        refine .inr ⟨x, hx, fun n z => ?_⟩
        subst z
        intro hc
        exact hx2 (by simp [inRange, hc.1, hc.2])
  · exact .inl (not_tup_dp h fun ds z => hl ⟨ds, z⟩)
def greatD : PyData → Bool
  | .tuple [.int a, .int b] => decide (1 ≤ a ∧ a ≤ 6 ∧ 1 ≤ b ∧ b ≤ 6 ∧ 9 < a * b)
  | _ => false
/-! clues -/
def rowD : PyData → Bool
  | .list _ => true
  | _ => false
def lenD : PyData → Nat
  | .list ds => ds.length
  | _ => 0
def fineD : PyData → Bool
  | .list ds => ds.all (inD (-1) 4)
  | _ => false
def chkD (rows : List PyData) : Bool :=
  ((decide (1 ≤ rows.length) && decide (rows.length ≤ 6)) && rows.all rowD) &&
  (((decide (1 ≤ lenD (rows.headD .none)) && decide (lenD (rows.headD .none) ≤ 6)) && (decide (rows.length * lenD (rows.headD .none) ≤ 9) && rows.all fun r => decide (lenD r = lenD (rows.headD .none)))) && rows.all fineD)
def badClD : PyData → Bool
  | .list ds => decide (ds.length ≤ 1000) && ds.all (fun d => decide (lenD d ≤ 1000)) && !chkD ds
  | _ => true
theorem rows_dp : ∀ {xs : List V} {ds : List PyData}, DpAll K H xs ds → ds.all (fun d => decide (lenD d ≤ 1000)) = true → ∃ rows : List Row, Paired (RowIs K H) xs rows ∧ rows.map Row.isRow = ds.map rowD ∧ rows.map Row.len = ds.map lenD ∧ rows.map Row.fine = ds.map fineD
  | _, _, .nil, _ => ⟨[], .nil, rfl, rfl, rfl⟩
  | x :: xs, d :: ds, .cons h hs, hl => by
    rw [List.all_cons, Bool.and_eq_true, decide_eq_true_eq] at hl
    obtain ⟨rows, p, e1, e2, e3⟩ := rows_dp hs hl.2
    by_cases hd : ∃ es, d = .list es
    · obtain ⟨es, rfl⟩ := hd
      cases h with
      | lst hq ha =>
        rename_i a ys
        refine ⟨.row ys :: rows, .cons ⟨a, rfl, hq, by rw [len_dpAll ha]; exact hl.1, known_all ha⟩ p, ?_, ?_, ?_⟩
        · rw [List.map_cons, List.map_cons, e1]; rfl
        · rw [List.map_cons, List.map_cons, e2]
          show ys.length :: _ = es.length :: _
          rw [len_dpAll ha]
        · rw [List.map_cons, List.map_cons, e3]
          show ys.all (inRange (-1) 4) :: _ = es.all (inD (-1) 4) :: _
          rw [all_inD ha]
    · have hn : ∀ es, d ≠ .list es := fun es z => hd ⟨es, z⟩
      refine ⟨.other :: rows, .cons (not_list_dp h hn) p, ?_, ?_, ?_⟩
      · rw [List.map_cons, List.map_cons, e1]
        congr 1
        cases d <;> first | rfl | exact absurd rfl (hn _)
      · rw [List.map_cons, List.map_cons, e2]
        congr 1
        cases d <;> first | rfl | exact absurd rfl (hn _)
      · rw [List.map_cons, List.map_cons, e3]
        congr 1
        cases d <;> first | rfl | exact absurd rfl (hn _)
theorem all_map {α β : Type} (f : α → β) (g : β → Bool) (l : List α) : (l.map f).all g = l.all fun x => g (f x) := by
  induction l with
  | nil => rfl
  | cons a r ih => rw [List.map_cons, List.all_cons, List.all_cons, ih]
theorem chk_dp {rows : List Row} {ds : List PyData} (e1 : rows.map Row.isRow = ds.map rowD) (e2 : rows.map Row.len = ds.map lenD) (e3 : rows.map Row.fine = ds.map fineD) : cluesChk rows = chkD ds := by
  have l : rows.length = ds.length := by have := congrArg List.length e1; simpa using this
  have hd : (rows.headD .other).len = lenD (ds.headD .none) := by
    cases rows with
    | nil => cases ds with
      | nil => rfl
      | cons d r => cases e1
    | cons x r => cases ds with
      | nil => cases e1
      | cons d r' =>
        rw [List.map_cons, List.map_cons] at e2
        exact (List.cons.inj e2).1
  unfold cluesChk chkD
  rw [l, hd]
  have a1 : rows.all Row.isRow = ds.all rowD := by
    have := congrArg (fun l => l.all id) e1
    simpa [all_map] using this
  have a3 : rows.all Row.fine = ds.all fineD := by
    have := congrArg (fun l => l.all id) e3
    simpa [all_map] using this
  have a2 : (rows.all fun r => decide (r.len = lenD (ds.headD .none))) = ds.all fun r => decide (lenD r = lenD (ds.headD .none)) := by
    have := congrArg (fun l => l.all fun n => decide (n = lenD (ds.headD .none))) e2
    simpa only [all_map] using this
  rw [a1, a2, a3]
theorem badCl_door {C : Ad} {E : XK} {d : PyData} {ok : Addr → List Row → Prop} (h : Dp K H v d) (hb : badClD d = true) (q : RetE C.cBadClues H E) : DoorC K C v H E ok := by
  by_cases hl : ∃ ds, d = .list ds
  · obtain ⟨ds, rfl⟩ := hl
    cases h with
    | lst hs ha =>
      rw [badClD] at hb
      simp only [Bool.and_eq_true, decide_eq_true_eq, Bool.not_eq_true'] at hb
      obtain ⟨⟨h1, h2⟩, h3⟩ := hb
      obtain ⟨rows, p, e1, e2, e3⟩ := rows_dp ha h2
      exact .inr ⟨_, _, rows, rfl, hs, by rw [len_dpAll ha]; exact h1, p, .inl ⟨by rw [chk_dp e1 e2 e3]; exact h3, q⟩⟩
  · exact .inl ⟨not_list_dp h fun ds z => hl ⟨ds, z⟩, q⟩
end
/-- a thing that is data with ok -/
def OkD (K : PySem.W.Frag) (ok : PyData → Bool) (H : Hp) (v : V) : Prop := ∃ d, Dp K H v d ∧ ok d = true
theorem OkD.mono {K : PySem.W.Frag} {ok : PyData → Bool} : Mono (OkD K ok) := fun _ _ _ e ⟨d, h, k⟩ => ⟨d, Dp.mono e h, k⟩
theorem OkD.monoN {K : PySem.W.Frag} {ok : PyData → Bool} {H H' : Hp} {v : V} (e : ExtN H H') (h : OkD K ok H v) : OkD K ok H' v := by obtain ⟨d, h1, h2⟩ := h; exact ⟨d, Dp.monoN e h1, h2⟩
theorem ep_ok {K : PySem.W.Frag} {ok : PyData → Bool} {σ : L2.St} {H : Hp} {te : TE} {d : PyData} (h : EvD K te σ H d) (hk : ok d = true) : EvP te σ H (fun _ v H2 => OkD K ok H2 v) := fun H1 e Q q => h H1 e _ fun v H2 e2 h2 => q v H2 e2 ⟨d, h2, hk⟩

/-! ### rows that are changed -/
def Rows (H : Hp) (m : Nat) (ps : List Addr) : Prop := ∀ q ∈ ps, ∃ ns : List Int, H q = some (.lst (ns.map V.int)) ∧ ns.length ≤ m
theorem paired_mem {α β : Type} {F : α → β → Prop} : ∀ {l : List α} {m : List β} {a : α}, Paired F l m → a ∈ l → ∃ b ∈ m, F a b
  | _ :: _, _ :: _, a, .cons h hs, ha => by
    rcases List.mem_cons.mp ha with rfl | ha
    · exact ⟨_, List.mem_cons_self, h⟩
    · obtain ⟨b, hb, hf⟩ := paired_mem hs ha
      exact ⟨b, List.mem_cons_of_mem _ hb, hf⟩
theorem refs_ne_ints {ps : List Addr} {ns : List Int} {q : Addr} (hq : q ∈ ps) : HO.lst (ps.map V.ref) ≠ HO.lst (ns.map V.int) := by
  intro e
  have e2 := HO.lst.inj e
  cases ps with
  | nil => cases hq
  | cons p r =>
    cases ns with
    | nil => cases e2
    | cons n s =>
      rw [List.map_cons, List.map_cons] at e2
      exact V.noConfusion (List.cons.inj e2).1
/-- for row in rows: row.append(z), rows new -/
theorem q_forApp {K : PySem.W.Frag} {σ : L2.St} {H H0 : Hp} {D : Ends} {tz : TS} {i j : Nat} {p : Addr} {ps : List Addr} {m : Nat} {z : Int} (hi : σ[i]? = some (some (.ref p))) (hj : j < σ.length) (hy : ∃ y, σ = σ.set j y) (h1 : H p = some (.lst (ps.map V.ref))) (hr : Rows H m ps) (hf : ∀ q ∈ ps, H0 q = none) (e0 : Ex H0 H) (hm : m + ps.length ≤ 90000)
    (k : ∀ y H1, Ex H0 H1 → H1 p = some (.lst (ps.map V.ref)) → tz D (σ.set j y) H1) : tSeq (tFor (iList K (tVar i)) (gName j) (tDrop (tBM K "list" rAppend (tVar j) (tCons (tC (.int z)) tNil)))) tz D σ H := by
  refine q_forLn (K := K) (j := j) (xs := ps.map V.ref) (a := p) (ev_var hi) (sq_of h1) (fun n σ' H' => ∃ y, σ' = σ.set j y ∧ Ex H0 H' ∧ H' p = some (.lst (ps.map V.ref)) ∧ Rows H' (m + n) ps) (fun H8 e8 => by
      obtain ⟨y, hy⟩ := hy
      exact ⟨y, hy, e0.trans e8, e8 _ _ h1, fun q hq => by
        obtain ⟨ns', h1, h2⟩ := hr q hq
        exact ⟨ns', e8 _ _ h1, by omega⟩⟩) (fun n σ' H' hn hP => by
      obtain ⟨_, _, _, h8, _⟩ := hP
      exact sq_of h8) (fun n x σ' H8 hx hP => ?_) (fun σ' H8 hP => ?_)
  · obtain ⟨y, rfl, e8, h8, r8⟩ := hP
    have hnl : n < ps.length := by
      have := (List.getElem?_eq_some_iff.mp hx).1
      rw [List.length_map] at this
      exact this
    rw [List.getElem?_map] at hx
    obtain ⟨qq, hqq, rfl⟩ := Option.map_eq_some_iff.mp hx
    have hmm : qq ∈ ps := List.mem_of_getElem? hqq
    obtain ⟨ms, hms, hml⟩ := r8 qq hmm
    rw [List.set_set]
    have sj : (σ.set j (some (V.ref qq)))[j]? = some (some (V.ref qq)) := by
      rw [List.getElem?_set_self (by exact hj)]
    refine s_app (K := K) (l := qq) (v := .int z) hms (ev_var sj) ev_c (by rw [List.length_map]; omega) fun H10 e10 => ⟨_, rfl, Ex.mut (e8.trans e10) (hf qq hmm), ?_, fun q' hq' => ?_⟩
    · have ne : p ≠ qq := ne_of h8 hms (refs_ne_ints hmm)
      rw [upd_ne ne]
      exact e10 _ _ h8
    · by_cases hq2 : q' = qq
      · subst hq2
        refine ⟨ms ++ [z], ?_, by rw [List.length_append]; simp; omega⟩
        rw [upd_same, List.map_append]
        rfl
      · obtain ⟨ns', h1, h2⟩ := r8 q' hq'
        exact ⟨ns', by rw [upd_ne hq2]; exact e10 _ _ h1, by omega⟩
  · obtain ⟨y, rfl, e8, h8, r8⟩ := hP
    exact k y H8 e8 h8

/-! ### k10: a door asked again and again, the handed list changed in place -/
open LamX NdefX
section
variable {K : PySem.W.Frag} {σ : L2.St} {H : Hp} {tl : TE} {tu tz : TS} {D : Ends}
/-- for i, x in enumerate(xs) -/
theorem q_forE {i j : Nat} {a : Addr} {xs : List V} (h : Ev tl σ H (.ref a)) (hx : SqL K H a xs) (Pv : Nat → L2.St → Hp → Prop) (h0 : ∀ H1, Ex H H1 → Pv 0 σ H1) (hq : ∀ n σ' H', Pv n σ' H' → SqL K H' a xs)
    (hs : ∀ n x σ' H' T, xs[n]? = some x → Pv n σ' H' → H' T = none → tu { D with nx := Pv (n + 1), ct := Pv (n + 1), bk := tz D } ((σ'.set i (some (.int (n : Int)))).set j (some x)) (upd H' T (.tup [.int (n : Int), x]))) (hd : ∀ σ' H', Pv xs.length σ' H' → tz D σ' H') :
    tSeq (tFor (iEnum K (tCons tl tNil)) (gTup K 2 (gCons (gName i) (gCons (gName j) gNil))) tu) tz D σ H := h H (Ex.refl H) _ fun H1 e1 => ⟨a, xs, rfl, ex_l e1 hx, by
  refine for_it (D := { D with nx := tz D }) (walk_enum (K := K) (a := a) (xs := xs)) Pv (h0 H1 e1) (fun n σ' H' _ p => hq n σ' H' p) (fun n x σ' H' H'' hi p hy => ?_) hd
  obtain ⟨T, x0, y0, rfl, nT, rfl, f1, f2⟩ := hy
  cases f1
  exact ⟨T, _, rfl, st_of upd_same, rfl, _, _, rfl, _, _, rfl, rfl, hs n y0 σ' H' T f2 p nT⟩⟩
theorem q_rev {ta : TE} {l : Addr} {xs : List V} (hl : H l = some (.lst xs)) (ha : Ev ta σ H (.ref l)) (k : ∀ H1, Ex H H1 → tz D σ (upd H1 l (.lst xs.reverse))) : tSeq (tDrop (tBM0 K "list" rReverse ta)) tz D σ H :=
  ha H (Ex.refl H) _ fun H1 e1 => ⟨Or.inl ⟨rfl, _, sq_of (e1 _ _ hl)⟩, l, xs, rfl, rfl, e1 _ _ hl, k H1 e1⟩
/-- xs over the first of ys -/
theorem set_over {xs ys : List V} (hl : xs.length = ys.length) {n : Nat} {y : V} (hy : ys[n]? = some y) : (ys.take n ++ xs.drop n).set n y = ys.take (n + 1) ++ xs.drop (n + 1) := by
  have hn := (List.getElem?_eq_some_iff.mp hy).1
  rw [take_snoc hy, List.append_assoc, List.singleton_append]
  have hd : xs.drop n = xs[n] :: xs.drop (n + 1) := List.drop_eq_getElem_cons (by omega)
  rw [hd, List.set_append_right _ _ (by rw [List.length_take]; omega)]
  rw [List.length_take, show n - min n ys.length = 0 by omega]
  rfl
/-- for at, x in enumerate(ys): mine[at] = x, mine alone is changed -/
theorem q_over {i j k : Nat} {a m : Addr} {xs ys : List V} {B : Hp} (hσ : ∀ u v, (((σ.set i u).set j v)[k]? = some (some (.ref m)))) (h : Ev tl σ H (.ref a)) (hij : i < σ.length ∧ j < σ.length ∧ i ≠ j) (eB : Ex B H) (hB : B m = none) (ha : SqL K B a ys) (hm : H m = some (.lst xs)) (hl : xs.length = ys.length) (hy : ∃ u v, σ = (σ.set i u).set j v)
    (c : ∀ u v H1, Ex B H1 → H1 m = some (.lst ys) → tz D ((σ.set i u).set j v) H1) : tSeq (tFor (iEnum K (tCons tl tNil)) (gTup K 2 (gCons (gName i) (gCons (gName j) gNil))) (tAsg (tVar j) (gSub (tVar k) (tVar i) rSetL))) tz D σ H := by
  refine q_forE (a := a) (xs := ys) h (ex_l eB ha) (fun n σ' H' => ∃ u v, σ' = (σ.set i u).set j v ∧ Ex B H' ∧ H' m = some (.lst (ys.take n ++ xs.drop n))) (fun H1 e1 => ?_) (fun n σ' H' hP => ?_) (fun n x σ' H' T hx hP hT => ?_) (fun σ' H' hP => ?_)
  · obtain ⟨u, v, huv⟩ := hy
    exact ⟨u, v, huv, eB.trans e1, by rw [List.take_zero, List.drop_zero, List.nil_append]; exact e1 _ _ hm⟩
  · obtain ⟨u, v, rfl, e1, h1⟩ := hP
    exact ex_l e1 ha
  · obtain ⟨u, v, rfl, e1, h1⟩ := hP
    have hn := (List.getElem?_eq_some_iff.mp hx).1
    have ss : ((((σ.set i u).set j v).set i (some (.int (n : Int)))).set j (some x)) = (σ.set i (some (.int (n : Int)))).set j (some x) := by
      rw [List.set_comm _ _ (Ne.symm hij.2.2), List.set_set, List.set_set]
    rw [ss]
    have eT : Ex H' (upd H' T (.tup [.int (n : Int), x])) := Ex.new hT
    have e2 := e1.trans eT
    have h2 := eT _ _ h1
    refine s_setL (D := { D with nx := _, ct := _, bk := tz D }) (l := m) (xs := ys.take n ++ xs.drop n) (j := n) (v := x) h2 (ev_var (by rw [List.getElem?_set_self (by rw [List.length_set]; exact hij.2.1)])) (ev_var (hσ _ _)) (ev_var (by rw [List.getElem?_set_ne (Ne.symm hij.2.2), List.getElem?_set_self hij.1])) (by rw [List.length_append, List.length_take, List.length_drop]; omega) fun H3 e3 => ?_
    refine ⟨_, _, rfl, Ex.mut (e2.trans e3) hB, ?_⟩
    rw [upd_same, set_over hl hx]
  · obtain ⟨u, v, rfl, e1, h1⟩ := hP
    rw [List.take_length, List.drop_eq_nil_of_le (by omega), List.append_nil] at h1
    exact c u v H' e1 h1
end
/-- a new list of data; its items say nothing of the lists that were there -/
def NewDat (K : PySem.W.Frag) (ds : List PyData) (H1 : Hp) (v : V) (H2 : Hp) : Prop := ∃ p vs, v = .ref p ∧ H1 p = none ∧ H2 p = some (.lst vs) ∧ vs.length ≤ 1000 ∧ DpAll K H2 vs ds ∧ ∀ m xs, H1 m = some (.lst xs) → DpAll K (del (del H2 p) m) vs ds
theorem NewDat.back {K : PySem.W.Frag} {ds : List PyData} {H0 H1 H2 : Hp} {v : V} (e : Ex H0 H1) (h : NewDat K ds H1 v H2) : NewDat K ds H0 v H2 := by
  obtain ⟨p, vs, rfl, h1, h2, h3, h4, h5⟩ := h
  exact ⟨p, vs, rfl, fresh_back e h1, h2, h3, h4, fun m xs hm => h5 m xs (e _ _ hm)⟩
theorem NewDat.dp {K : PySem.W.Frag} {ds : List PyData} {H1 H2 : Hp} {v : V} (h : NewDat K ds H1 v H2) : Dp K H2 v (.list ds) := by
  obtain ⟨p, vs, rfl, h1, h2, h3, h4, h5⟩ := h
  exact .lst (sq_of h2) h4
structure Lams10 where
  (lm_l_cells_right_0 lm_l_cells_right_1 lm_l_cells_right_2 lm_law10_0 : Lam0)
/-- sp answers g of each of the lists xss -/
def Asks (K : PySem.W.Frag) (sp : Sp) (xss : List (List Int)) (g : List Int → List PyData) (H : Hp) : Prop := ∀ xs ∈ xss, layD (g xs) = true ∧ ∀ H1 a Q, Ex H H1 → SqL K H1 a (xs.map V.int) → RetP (NewDat K (g xs)) H1 Q → sp [.ref a] H1 Q E0
def sp_lm_l_cells_right_0 (K : PySem.W.Frag) (C : Ad) (ws : List (Option V)) : Sp := fun vs H Q E => ∃ a, vs = [a] ∧ ∃ g h w c cs, a = .ref c ∧ ws = [some (.ref g)] ∧ SqT K H g [.int ((h : Nat) : Int), .int ((w : Nat) : Int)] ∧ GOk h w ∧ SqL K H c ((cs : List Int).map V.int) ∧ COk h w cs ∧ RetP (fun H1 v H2 => NewLL H1 v H2 (ints2 (numbersOf h w cs))) H Q
def sp_lm_l_cells_right_1 (K : PySem.W.Frag) (C : Ad) (ws : List (Option V)) : Sp := fun vs H Q E => ∃ a, vs = [a] ∧ ∃ g h w c cs pts, a = .ref c ∧ ws = [some (.ref g)] ∧ SqT K H g [.int ((h : Nat) : Int), .int ((w : Nat) : Int)] ∧ GOk h w ∧ SqL K H c ((cs : List Int).map V.int) ∧ COk h w cs ∧ isRing h w cs = true ∧ walkOf h w cs = some pts ∧ RetP (NewPts K pts) H Q
def sp_lm_l_cells_right_2 (K : PySem.W.Frag) (C : Ad) (ws : List (Option V)) : Sp := fun vs H Q E => ∃ a, vs = [a] ∧ ∃ g h w c cs o os, a = .ref c ∧ ws = [some (.ref g), some (.ref o)] ∧ SqT K H g [.int ((h : Nat) : Int), .int ((w : Nat) : Int)] ∧ GOk h w ∧ SqL K H c ((cs : List Int).map V.int) ∧ COk h w cs ∧ SqL K H o ((os : List Int).map V.int) ∧ os ≠ [] ∧ os.length ≤ 1000 ∧ ∀ p H2, H p = none → Ex H H2 → H2 p = some (.lst [.bl (showsG h w os (judgedM h w cs))]) → Q (.ref p) H2
def t_lm_l_cells_right_0 (K : PySem.W.Frag) (C : Ad) (E : XK) : TE := (tCall (sp_numbers K C) [] E (tCons (tVar 1) (tCons (tVar 0) tNil)))
def t_lm_l_cells_right_1 (K : PySem.W.Frag) (C : Ad) (E : XK) : TE := (tCall (sp_walk K C) [] E (tCons (tVar 1) (tCons (tVar 0) tNil)))
def t_lm_l_cells_right_2 (K : PySem.W.Frag) (C : Ad) (E : XK) : TE := (tLst (tCons (tAlt (tMeth C.cRing "shows" (sp_Ring_shows K) [] E0 (tCall (sp_judged K C) [] E (tCons (tVar 1) (tCons (tVar 0) tNil))) (tCons (tVar 1) (tCons (tVar 2) tNil))) (tAlt (tMeth C.cSplit "shows" (sp_Split_shows K C) [] E0 (tCall (sp_judged K C) [] E (tCons (tVar 1) (tCons (tVar 0) tNil))) (tCons (tVar 1) (tCons (tVar 2) tNil))) (tMeth C.cHole "shows" (sp_Hole_shows K C) [] E0 (tCall (sp_judged K C) [] E (tCons (tVar 1) (tCons (tVar 0) tNil))) (tCons (tVar 1) (tCons (tVar 2) tNil))))) tNil))
def RDoor (K : PySem.W.Frag) (C : Ad) (L : Lams10) (F : NL) (fr : List Str) (sp : List (Option V) → Sp) : Prop := (∃ c cl, F = L.lm_l_cells_right_0.atc cl c ∧ fr = (["_law_grid"] : List Str) ∧ sp = sp_lm_l_cells_right_0 K C) ∨ (∃ c cl, F = L.lm_l_cells_right_1.atc cl c ∧ fr = (["_law_grid"] : List Str) ∧ sp = sp_lm_l_cells_right_1 K C) ∨ (∃ c cl, F = L.lm_l_cells_right_2.atc cl c ∧ fr = (["_law_grid", "_law_one"] : List Str) ∧ sp = sp_lm_l_cells_right_2 K C)
def sp_l_door_right (K : PySem.W.Frag) (C : Ad) (L : Lams10) (c : Cap) : Sp := fun vs H Q _ => ∃ f one other, vs = [.ref f, .ref one, .ref other] ∧ ∃ nl sp xs ys g, H f = some (LamO f nl) ∧ nl.cl = c.cl ∧ H nl.c = some (CodeO nl.c nl.qual) ∧ RDoor K C L nl c.fr sp ∧ SqL K H one ((xs : List Int).map V.int) ∧ SqL K H other ((ys : List Int).map V.int) ∧ xs.length = ys.length ∧ xs.length ≤ 1000 ∧ Asks K (sp c.ws) [xs, ys] g H ∧ RetV (.bl true) H Q
def t_l_door_right (K : PySem.W.Frag) (C : Ad) (L : Lams10) (c : Cap) : TS := (tSeq (tAsg (tCB (rListS K) (tCons (tVar 1) tNil)) (gName 3))
      (tSeq (tAsg (tCallLc 0 c (RDoor K C L) (fun _ => E0) (tCons (tVar 3) tNil)) (gName 4))
      (tSeq (tIfS (tTest (tOp (rNeD K) (tVar 3) (tVar 1))) (tRet (tC (.bl false))) tNext)
      (tSeq (tAsg (tCB (rListS K) (tCons (tVar 4) tNil)) (gName 5))
      (tSeq (tDrop (tBM K "list" rAppend (tVar 4) (tCons (tC (.int 99)) tNil)))
      (tSeq (tDrop (tBM0 K "list" rReverse (tVar 4)))
      (tSeq (tIfS (tTest (tOp (rNeD K) (tCallLc 0 c (RDoor K C L) (fun _ => E0) (tCons (tVar 3) tNil)) (tVar 5))) (tRet (tC (.bl false))) tNext)
      (tSeq (tFor (iEnum K (tCons (tVar 2) tNil)) (gTup K 2 (gCons (gName 6) (gCons (gName 7) gNil))) (tAsg (tVar 7) (gSub (tVar 3) (tVar 6) rSetL)))
      (tSeq (tIfS (tOr (tTest (tOp (rNeD K) (tCallLc 0 c (RDoor K C L) (fun _ => E0) (tCons (tVar 3) tNil)) (tCallLc 0 c (RDoor K C L) (fun _ => E0) (tCons (tCB (rListS K) (tCons (tVar 2) tNil)) tNil)))) (tTest (tOp (rNeD K) (tVar 3) (tVar 2)))) (tRet (tC (.bl false))) tNext)
      (tSeq (tFor (iEnum K (tCons (tVar 1) tNil)) (gTup K 2 (gCons (gName 6) (gCons (gName 7) gNil))) (tAsg (tVar 7) (gSub (tVar 3) (tVar 6) rSetL)))
      (tRet (tAndV (tOp (rEqD K) (tCallLc 0 c (RDoor K C L) (fun _ => E0) (tCons (tVar 3) tNil)) (tVar 5)) (tOp (rEqD K) (tVar 3) (tVar 1))))))))))))))
section
variable {K : PySem.W.Frag} {C : Ad} {L : Lams10} {c : Cap} {σ : L2.St} {H0 H : Hp} {ta : TE} {f : Addr} {nl : NL} {sp : List (Option V) → Sp} {xss : List (List Int)} {g : List Int → List PyData} {xs : List Int}
theorem ep_ask (e : Ex H0 H) (h1 : H0 f = some (LamO f nl)) (h2 : nl.cl = c.cl) (h3 : H0 nl.c = some (CodeO nl.c nl.qual)) (h4 : RDoor K C L nl c.fr sp) (h5 : Asks K (sp c.ws) xss g H0) (hx : xs ∈ xss) (h0 : σ[0]? = some (some (.ref f))) (ha : EvS K ta σ H (xs.map V.int)) :
    EvP (tCallLc 0 c (RDoor K C L) (fun _ => E0) (tCons ta tNil)) σ H (NewDat K (g xs)) := fun H1 e1 Q q =>
  ⟨f, nl, h0, e1 _ _ (e _ _ h1), h2, ha H1 e1 _ fun p H2 e2 hp => ⟨e2 _ _ (e1 _ _ (e _ _ h1)), e2 _ _ (e1 _ _ (e _ _ h3)), sp, h4, (h5 xs hx).2 H2 p Q ((e.trans e1).trans e2) hp fun v H3 e3 hv => q v H3 (e2.trans e3) (hv.back e2)⟩⟩
end
theorem lay_eqv {ds : List PyData} (h : layD ds = true) : PyData.eqv (.list ds) (.list ds) = true := SeqAt.eqv_refl _ (by
  rw [PyData.canLay0]
  unfold layD at h
  rw [Bool.and_eq_true] at h
  exact h.1)
theorem eqv_ints_same (ns : List Int) : PyData.eqv (dI ns) (dI ns) = true := by rw [eqv_dI]; exact decide_eq_true rfl
theorem pure_l_door_right {K : PySem.W.Frag} {C : Ad} {L : Lams10} {c : Cap} {vs : List V} {H : Hp} {Q : VK} {E : XK} {D : Ends} (hD : D.rt = Q) {N : List Str} (hN : N.length = 8) (h : sp_l_door_right K C L c vs H Q E) : t_l_door_right K C L c D (start N vs) H := by
  obtain ⟨f, one, other, rfl, nl, sp, xs, ys, g, hf, hcl, hc, hR, h1, h2, hl, hz, hA, q⟩ := h
  subst hD
  rw [start_eq hN]
  change t_l_door_right K C L c D [some (.ref f), some (.ref one), some (.ref other), none, none, none, none, none] H
  have lx := (hA xs List.mem_cons_self).1
  have ly := (hA ys (List.mem_cons_of_mem _ List.mem_cons_self)).1
  refine q_asgL (i := 3) (el_listS (es_of (K := K) (ev_var rfl) h1)) fun m H1 hm e1 m1 => ?_
  refine q_asgP (i := 4) (ep_ask (K := K) (C := C) (L := L) (c := c) (xs := xs) e1 hf hcl hc hR hA List.mem_cons_self rfl (es_of (ev_var rfl) (sq_of m1))) fun v H2 e2 hv => ?_
  obtain ⟨p, us, rfl, p1, p2, p3, p4, p5⟩ := hv
  have m2 := e2 _ _ m1
  have pm : p ≠ m := fun z => by rw [z, m1] at p1; cases p1
  have d5 := p5 m _ m1
  change tSeq _ _ D [some (.ref f), some (.ref one), some (.ref other), some (.ref m), some (.ref p), none, none, none] H2
  refine q_when (b := false) (et_is (et_test (ev_neD (ed_of (ev_var rfl) (dp_ints (sq_of m2))) (ed_of (ev_var rfl) (dp_ints (ex_l (e1.trans e2) h1))) (shaped_ints _) (shaped_ints _))) (by rw [eqv_ints_same]; rfl)) (fun z => nomatch z) fun _ H3 e3 => ?_
  refine q_asgL (i := 5) (el_listS (es_of (K := K) (ev_var rfl) (sq_of (e3 _ _ p2)))) fun k H4 hk e4 k4 => ?_
  change tSeq _ _ D [some (.ref f), some (.ref one), some (.ref other), some (.ref m), some (.ref p), some (.ref k), none, none] H4
  have e24 := e3.trans e4
  refine q_app (l := p) (xs := us) (v := .int 99) (e24 _ _ p2) (ev_var rfl) ev_c (by omega) fun H5 e5 => ?_
  refine q_rev (l := p) (xs := us ++ [V.int 99]) upd_same (ev_var rfl) fun H5r e5r => ?_
  -- from here the heap without mine
  generalize hG : upd H5r p (.lst (us ++ [V.int 99]).reverse) = G
  have nk : k ≠ m := fun z => by rw [z, e3 _ _ m2] at hk; cases hk
  have kp : k ≠ p := fun z => by rw [z, e3 _ _ p2] at hk; cases hk
  have gne : ∀ {b : Addr} {o : HO}, b ≠ p → H5 b = some o → G b = some o := fun {b o} hb ho => by rw [← hG, upd_ne hb]; exact e5r _ _ (by rw [upd_ne hb]; exact ho)
  have mG : G m = some (.lst (xs.map V.int)) := gne (Ne.symm pm) (e5 _ _ (e24 _ _ m2))
  have eB0 : Ex H (del G m) := fun b o hb => by
    have bm : b ≠ m := fun z => by rw [z, hm] at hb; cases hb
    have bp : b ≠ p := fun z => by rw [z] at hb; have := e1 _ _ hb; rw [p1] at this; cases this
    rw [del_ne bm]
    exact gne bp (e5 _ _ (e24 _ _ (e2 _ _ (e1 _ _ hb))))
  have eD : Ex (del (del H2 p) m) (del G m) := fun b o hb => by
    have bm : b ≠ m := fun z => by rw [z, del_self] at hb; cases hb
    rw [del_ne bm] at hb ⊢
    have bp : b ≠ p := fun z => by rw [z, del_self] at hb; cases hb
    rw [del_ne bp] at hb
    exact gne bp (e5 _ _ (e24 _ _ hb))
  have kB : Dp K (del G m) (.ref k) (.list (g xs)) := .lst (sq_of (by rw [del_ne nk]; exact gne kp (e5 _ _ k4))) (DpAll.mono eD d5)
  have gm0 : (del G m) m = none := del_self
  generalize hBd : del G m = B at *
  have eBG : Ex B G := by rw [← hBd]; exact del_ex G m
  clear hG
  change tSeq _ _ D [some (.ref f), some (.ref one), some (.ref other), some (.ref m), some (.ref p), some (.ref k), none, none] G
  have askm : ∀ {σ : L2.St} {H' : Hp} {zs : List Int} {i : Nat}, zs ∈ [xs, ys] → Ex B H' → H' m = some (.lst (zs.map V.int)) → σ[0]? = some (some (.ref f)) → σ[i]? = some (some (.ref m)) → EvD K (tCallLc 0 c (RDoor K C L) (fun _ => E0) (tCons (tVar i) tNil)) σ H' (.list (g zs)) := fun {σ H' zs i} hzs e' hm' s0 si => ed_p (ep_ask (K := K) (C := C) (L := L) (c := c) (xs := zs) (eB0.trans e') hf hcl hc hR hA hzs s0 (es_of (ev_var si) (sq_of hm'))) fun _ _ _ z => z.dp
  refine q_when (b := false) (et_is (et_test (ev_neD (askm (i := 3) List.mem_cons_self eBG mG rfl rfl) (ed_of (ev_var rfl) (Dp.mono eBG kB)) (shaped_lay lx) (shaped_lay lx))) (by rw [lay_eqv lx]; rfl)) (fun z => nomatch z) fun _ H6 e6 => ?_
  refine q_over (K := K) (i := 6) (j := 7) (k := 3) (a := other) (m := m) (xs := xs.map V.int) (ys := ys.map V.int) (B := B) (fun _ _ => rfl) (ev_var rfl) ⟨by simp, by simp, by decide⟩ (eBG.trans e6) gm0 (ex_l eB0 h2) (e6 _ _ mG) (by rw [List.length_map, List.length_map]; exact hl) ⟨none, none, rfl⟩ fun u6 u7 H7 e7 m7 => ?_
  change tSeq _ _ D [some (.ref f), some (.ref one), some (.ref other), some (.ref m), some (.ref p), some (.ref k), u6, u7] H7
  have my : ys ∈ [xs, ys] := List.mem_cons_of_mem _ List.mem_cons_self
  refine q_when (b := false) (et_is (et_or (a := false) (b := false) (et_is (et_test (ev_neD (askm (i := 3) my e7 m7 rfl rfl) (d' := .list (g ys)) (ed_p (ep_ask (K := K) (C := C) (L := L) (c := c) (xs := ys) (eB0.trans e7) hf hcl hc hR hA my rfl (es_new (el_listS (es_of (K := K) (ev_var rfl) (ex_l (eB0.trans e7) h2))))) fun _ _ _ z => z.dp) (shaped_lay ly) (shaped_lay ly))) (by rw [lay_eqv ly]; rfl)) fun _ => et_is (et_test (ev_neD (ed_of (ev_var rfl) (dp_ints (sq_of m7))) (ed_of (ev_var rfl) (dp_ints (ex_l (eB0.trans e7) h2))) (shaped_ints _) (shaped_ints _))) (by rw [eqv_ints_same]; rfl)) rfl) (fun z => nomatch z) fun _ H8 e8 => ?_
  refine q_over (K := K) (i := 6) (j := 7) (k := 3) (a := one) (m := m) (xs := ys.map V.int) (ys := xs.map V.int) (B := B) (fun _ _ => rfl) (ev_var rfl) ⟨by simp, by simp, by decide⟩ (e7.trans e8) gm0 (ex_l eB0 h1) (e8 _ _ m7) (by rw [List.length_map, List.length_map]; exact hl.symm) ⟨u6, u7, rfl⟩ fun w6 w7 H9 e9 m9 => ?_
  change tRet _ D [some (.ref f), some (.ref one), some (.ref other), some (.ref m), some (.ref p), some (.ref k), w6, w7] H9
  exact s_ret (v := .bl true) (ev_is (ev_andV (a := true) (b := true) (ev_is (ev_eqD (askm (i := 3) List.mem_cons_self e9 m9 rfl rfl) (ed_of (ev_var rfl) (Dp.mono e9 kB)) (shaped_lay lx) (shaped_lay lx)) (by rw [lay_eqv lx])) fun _ => ev_is (ev_eqD (ed_of (ev_var rfl) (dp_ints (sq_of m9))) (ed_of (ev_var rfl) (dp_ints (ex_l (eB0.trans e9) h1))) (shaped_ints _) (shaped_ints _)) (by rw [eqv_ints_same])) rfl) fun Hz ez => q Hz ((eB0.trans e9).trans ez)

/-! ### points and sides in the heap; dicts of them -/
open Sd.J
theorem hu60 {A : Around} {k : Nat} (hr : Room k A) : A.units + 60 < cLine := by
  have := hr.un
  omega
def PtAt (H : Hp) (a : Addr) (p : Pt) : Prop := H a = some (.tup [.int p.1, .int p.2])
def SdAt (H : Hp) (a : Addr) (u : Sd2) : Prop := ∃ p q, H a = some (.tup [.ref p, .ref q]) ∧ PtAt H p u.1 ∧ PtAt H q u.2
/-- tuples stay -/
def TEx (H H' : Hp) : Prop := ∀ a vs, H a = some (.tup vs) → H' a = some (.tup vs)
theorem TEx.of {H H' : Hp} (e : Ex H H') : TEx H H' := fun a vs h => e a _ h
theorem TEx.trans {H H1 H2 : Hp} (e : TEx H H1) (e' : TEx H1 H2) : TEx H H2 := fun a vs h => e' a vs (e a vs h)
theorem TEx.upd {H : Hp} {d : Addr} {o o' : HO} (h : H d = some o) (ho : ∀ vs, o ≠ .tup vs) : TEx H (upd H d o') := fun a vs ha => by
  have : a ≠ d := fun e => by
    subst e
    rw [h] at ha
    exact ho vs (Option.some.inj ha)
  rw [upd_ne this]
  exact ha
theorem PtAt.mono {H H' : Hp} (e : TEx H H') {a : Addr} {p : Pt} (h : PtAt H a p) : PtAt H' a p := e _ _ h
theorem SdAt.mono {H H' : Hp} (e : TEx H H') {a : Addr} {u : Sd2} (h : SdAt H a u) : SdAt H' a u := by
  obtain ⟨p, q, h1, h2, h3⟩ := h
  exact ⟨p, q, e _ _ h1, h2.mono e, h3.mono e⟩
def kPt (p : Pt) : NestedKey := .tup [.num p.1, .num p.2]
def kSd (u : Sd2) : NestedKey := .tup [kPt u.1, kPt u.2]
theorem PtAt.nk {H : Hp} {a : Addr} {p : Pt} (h : PtAt H a p) : NK H (kPt p) (.ref a) := .tup h (.cons (.num _) (.cons (.num _) .nil))
theorem SdAt.nk {H : Hp} {a : Addr} {u : Sd2} (h : SdAt H a u) : NK H (kSd u) (.ref a) := by
  obtain ⟨p, q, h1, h2, h3⟩ := h
  exact .tup h1 (.cons h2.nk (.cons h3.nk .nil))
theorem kPt_inj {p q : Pt} (h : kPt p = kPt q) : p = q := by
  unfold kPt at h
  injection h with h
  injection h with h1 h2
  injection h2 with h2 _
  injection h1 with h1
  injection h2 with h2
  exact Prod.ext h1 h2
theorem kSd_inj {u v : Sd2} (h : kSd u = kSd v) : u = v := by
  unfold kSd at h
  injection h with h
  injection h with h1 h2
  injection h2 with h2 _
  exact Prod.ext (kPt_inj h1) (kPt_inj h2)
theorem kPt_dp (p : Pt) : (kPt p).depth ≤ 8 := by
  unfold kPt
  simp [NestedKey.depth, NestedKey.depthAll]
theorem kSd_dp (u : Sd2) : (kSd u).depth ≤ 8 := by
  unfold kSd kPt
  simp [NestedKey.depth, NestedKey.depthAll]
section
variable {K : PySem.W.Frag} {w : World} {σ : L2.St} {H H' : Hp} {ta tb te td ty tx : TE} {tr : TA} {t : TT} {D : Ends} {tz : TS} {x y v : V} {d a : Addr} {k : NestedKey} {kas : List Ent}
theorem rd_ex {o : HO} (e : Ex H H') (h : Rd H d o) : Rd H' d o := h.elim (fun h => .inl (e _ _ h)) (fun ⟨u, h⟩ => .inr ⟨u, e _ _ h⟩)
theorem ev_getN (hd : Ev td σ H (.ref d)) (hy : Ev ty σ H (.ref a)) (hr : Rd H d (DN w d kas)) (hk : Keys H kas) (hn : NK H k (.ref a)) (hp : k.depth ≤ 8) (hv : valE kas k = some v) : Ev (tGetN w td ty) σ H v := fun H1 e Q q =>
  hd H1 e _ fun H2 e2 => hy H2 (e.trans e2) _ fun H3 e3 =>
    have e' := (e.trans e2).trans e3
    ⟨d, kas, k, a, v, rfl, rfl, rd_ex e' hr, hk.mono e', hn.mono e', hp, hv, q H3 (e2.trans e3)⟩
theorem ev_get2N (hd : Ev td σ H (.ref d)) (hy : Ev ty σ H (.ref a)) (hx : Ev tx σ H x) (hr : Rd H d (DN w d kas)) (hk : Keys H kas) (hn : NK H k (.ref a)) (hp : k.depth ≤ 8) : Ev (tGet2N w td ty tx) σ H ((valE kas k).getD x) := fun H1 e Q q =>
  hd H1 e _ fun H2 e2 => ⟨d, kas, rfl, rd_ex (e.trans e2) hr, hy H2 (e.trans e2) _ fun H3 e3 => hx H3 ((e.trans e2).trans e3) _ fun H4 e4 =>
    have e' := ((e.trans e2).trans e3).trans e4
    ⟨kas, k, a, rfl, rd_ex e' hr, hk.mono e', hn.mono e', hp, q H4 ((e2.trans e3).trans e4)⟩⟩
theorem s_putN (hv : Ev te σ H v) (hd : Ev td σ H (.ref d)) (hy : Ev ty σ H (.ref a)) (hr : H d = some (DN w d kas)) (hk : Keys H kas) (hn : NK H k (.ref a)) (hp : k.depth ≤ 8) (hl : kas.length < 100000) (c : ∀ H1, Ex H H1 → D.nx σ (upd H1 d (DN w d (putE kas k a v)))) : sPutN w td ty te D σ H :=
  hv H (Ex.refl H) _ fun H1 e1 => hd H1 e1 _ fun H2 e2 => hy H2 (e1.trans e2) _ fun H3 e3 =>
    have e' := (e1.trans e2).trans e3
    ⟨d, kas, k, a, rfl, rfl, e' _ _ hr, hk.mono e', hn.mono e', hp, sz_lt hl, c H3 e'⟩
/-- a new dict -/
theorem q_dnew {i : Nat} (c : ∀ p H1, H p = none → Ex H H1 → H1 p = some (DN w p []) → tz D (σ.set i (some (.ref p))) H1) : tSeq (tAsg (tDNew w) (gName i)) tz D σ H := fun p hp => c p _ hp (Ex.new hp) upd_same
/-! points and sides made -/
def EvPt (te : TE) (σ : L2.St) (H : Hp) (p : Pt) : Prop := ∀ H1, Ex H H1 → ∀ Q : VK, (∀ a H2, Ex H1 H2 → PtAt H2 a p → Q (.ref a) H2) → te σ H1 Q
def EvSd (te : TE) (σ : L2.St) (H : Hp) (u : Sd2) : Prop := ∀ H1, Ex H H1 → ∀ Q : VK, (∀ a H2, Ex H1 H2 → SdAt H2 a u → Q (.ref a) H2) → te σ H1 Q
def EvASd (ta : TA) (σ : L2.St) (H : Hp) (us : List Sd2) : Prop := ∀ H1, Ex H H1 → ∀ Q : List V → Hp → Prop, (∀ as H2, Ex H1 H2 → Paired (SdAt H2) as us → Q (as.map V.ref) H2) → ta σ H1 Q
theorem ept {i j : Int} (h1 : Ev ta σ H (.int i)) (h2 : Ev tb σ H (.int j)) : EvPt (tTup (tCons ta (tCons tb tNil))) σ H (i, j) := fun H1 e Q q =>
  h1 H1 e _ fun H2 e2 => h2 H2 (e.trans e2) _ fun H3 e3 => ⟨sz_of (by simp), fun p hp => q p _ ((e2.trans e3).trans (Ex.new hp)) upd_same⟩
theorem esd {p q : Pt} (h1 : EvPt ta σ H p) (h2 : EvPt tb σ H q) : EvSd (tTup (tCons ta (tCons tb tNil))) σ H (p, q) := fun H1 e Q c =>
  h1 H1 e _ fun a H2 e2 z1 => h2 H2 (e.trans e2) _ fun b H3 e3 z2 => ⟨sz_of (by simp), fun s hs => c s _ ((e2.trans e3).trans (Ex.new hs)) ⟨a, b, upd_same, z1.mono (.of (e3.trans (Ex.new hs))), z2.mono (.of (Ex.new hs))⟩⟩
theorem sds_mono (e : TEx H H') {as : List Addr} {us : List Sd2} (h : Paired (SdAt H) as us) : Paired (SdAt H') as us := Paired.mapP h fun _ _ z => z.mono e
theorem pts_mono (e : TEx H H') {as : List Addr} {us : List Pt} (h : Paired (PtAt H) as us) : Paired (PtAt H') as us := Paired.mapP h fun _ _ z => z.mono e
theorem eas_nil : EvASd tNil σ H [] := fun H1 _ _ q => q [] H1 (Ex.refl H1) .nil
theorem eas_cons {u : Sd2} {us : List Sd2} (h : EvSd ta σ H u) (hr : EvASd tr σ H us) : EvASd (tCons ta tr) σ H (u :: us) := fun H1 e _ q =>
  h H1 e _ fun a H2 e2 z => hr H2 (e.trans e2) _ fun as H3 e3 zs => q (a :: as) H3 (e2.trans e3) (.cons (z.mono (.of e3)) zs)
theorem q_asgSds {i : Nat} {us : List Sd2} (h : EvASd tr σ H us) (hl : us.length ≤ 1000) (c : ∀ p as H1, H p = none → Ex H H1 → H1 p = some (.lst (as.map V.ref)) → Paired (SdAt H1) as us → tz D (σ.set i (some (.ref p))) H1) : tSeq (tAsg (tLst tr) (gName i)) tz D σ H :=
  h H (Ex.refl H) _ fun as H1 e z => ⟨sz_of (by rw [List.length_map, Paired.length z]; omega), fun p np => c p as _ (fresh_back e np) (e.trans (Ex.new np)) upd_same (sds_mono (.of (Ex.new np)) z)⟩
theorem paired_append {α β : Type} {F : α → β → Prop} : ∀ {l m : List α} {l' m' : List β}, Paired F l l' → Paired F m m' → Paired F (l ++ m) (l' ++ m')
  | _, _, _, _, .nil, h => h
  | _, _, _, _, .cons g gs, h => .cons g (paired_append gs h)
def EvLSd (te : TE) (σ : L2.St) (H : Hp) (us : List Sd2) : Prop := ∀ H1, Ex H H1 → ∀ Q : VK, (∀ p as H2, H1 p = none → Ex H1 H2 → H2 p = some (.lst (as.map V.ref)) → Paired (SdAt H2) as us → Q (.ref p) H2) → te σ H1 Q
theorem els_cat {l : Addr} {as : List Addr} {us vs : List Sd2} (hl : H l = some (.lst (as.map V.ref))) (hp : Paired (SdAt H) as us) (hv : Ev ta σ H (.ref l)) (h : EvASd tr σ H vs) (hz : us.length + vs.length ≤ 1000) : EvLSd (tOp rCat ta (tLst tr)) σ H (us ++ vs) := fun H1 e Q q =>
  hv H1 e _ fun H2 e2 => h H2 (e.trans e2) _ fun bs H3 e3 hb => ⟨sz_of (by rw [List.length_map, Paired.length hb]; omega), fun lb hlb =>
    have e4 : Ex H3 (upd H3 lb (.lst (bs.map V.ref))) := Ex.new hlb
    have e' := ((e.trans e2).trans e3).trans e4
    ⟨l, lb, as.map V.ref, bs.map V.ref, rfl, rfl, e' _ _ hl, upd_same, sz_of (by rw [List.length_map, List.length_map, Paired.length hp, Paired.length hb]; omega), fun p hp' =>
      q p (as ++ bs) _ (fresh_back ((e2.trans e3).trans e4) hp') (((e2.trans e3).trans e4).trans (Ex.new hp')) (by rw [upd_same, List.map_append]) (paired_append (sds_mono (.of (e'.trans (Ex.new hp'))) hp) (sds_mono (.of (e4.trans (Ex.new hp'))) hb))⟩⟩
theorem s_forSd {us : List Sd2} {g : TG} {tu : TS} (h : EvLSd te σ H us) (Pv : Addr → List Addr → Nat → L2.St → Hp → Prop) (h0 : ∀ p as H1, H p = none → Ex H H1 → H1 p = some (.lst (as.map V.ref)) → Paired (SdAt H1) as us → Pv p as 0 σ H1)
    (hl : ∀ p as i σ' H', Pv p as i σ' H' → H' p = some (.lst (as.map V.ref)) ∧ Paired (SdAt H') as us)
    (hs : ∀ p as i a u σ' H', us[i]? = some u → SdAt H' a u → Pv p as i σ' H' → g (.ref a) σ' H' fun σ2 H2 => tu { D with nx := Pv p as (i + 1), ct := Pv p as (i + 1), bk := D.nx } σ2 H2) (hd : ∀ p as σ' H', Pv p as us.length σ' H' → D.nx σ' H') : tFor (iList K te) g tu D σ H :=
  h H (Ex.refl H) _ fun p as H1 hp e h1 hpr => ⟨p, rfl, ⟨_, sq_of h1⟩, for_list (K := K) (xs := as.map V.ref) (Pv p as) (h0 p as H1 hp e h1 hpr) (fun i σ' H' _ z => sq_of (hl p as i σ' H' z).1)
    (fun i x σ' H' hi z => by
      rw [List.getElem?_map] at hi
      obtain ⟨a, ha, rfl⟩ := Option.map_eq_some_iff.mp hi
      obtain ⟨u, hu, hs'⟩ := L2.paired_get (hl p as i σ' H' z).2 ha
      exact hs p as i a u σ' H' hu hs' z) (fun σ' H' z => by
      rw [List.length_map, Paired.length hpr] at z
      exact hd p as σ' H' z)⟩
/-- over a dict's keys, the dict locked -/
theorem lc_N {d : Addr} {o : Obj} {kas : List Ent} {g : TG} {tt : TT} {te : TE} {vs : List Nat} {σ : L2.St} {H1 : Hp} {Dl : Addr} {Qd : Hp → Prop} (Pv : Nat → Hp → Prop) (h0 : Pv 0 (upd H1 Dl (.lst []))) (hl : ∀ i H, Pv i H → H d = some (.frz o (DN w d kas)))
    (hs : ∀ i e H, kas[i]? = some e → Pv i H → g (.ref e.2.1) (wipe σ vs) H fun σ2 H2 => wipe σ2 vs = wipe σ vs ∧ tt σ2 H2 fun b H3 =>
      if b = true then te σ2 H3 fun y H4 => ∃ acc, H4 Dl = some (.lst acc) ∧ acc.length < sizeLine ∧ Pv (i + 1) (upd H4 Dl (.lst (acc ++ [y]))) else Pv (i + 1) H3) (hd : ∀ H, Pv kas.length H → Qd H) :
    ∃ W : Nat → Nat → Hp → Prop, (∃ m, W 0 m (upd H1 Dl (.lst []))) ∧ ∀ i m H, W i m H →
      ((ItN w d o kas).stop i H ∧ Qd H) ∨ ((ItN w d o kas).go i H ∧ ∃ Nx : Hp → Prop, (∀ H', Nx H' → ∃ m', m' < m ∧ W (i + 1) m' H') ∧ ∀ x H', (ItN w d o kas).yld i H x H' → g x (wipe σ vs) H' fun σ2 H2 => wipe σ2 vs = wipe σ vs ∧ tt σ2 H2 fun b H3 =>
        if b = true then te σ2 H3 fun y H4 => ∃ acc, H4 Dl = some (.lst acc) ∧ acc.length < sizeLine ∧ Nx (upd H4 Dl (.lst (acc ++ [y]))) else Nx H3) := by
  refine ⟨fun i m H => m = kas.length - i ∧ i ≤ kas.length ∧ Pv i H, ⟨kas.length, by simp, Nat.zero_le _, h0⟩, ?_⟩
  rintro i m H ⟨rfl, hi, p⟩
  have q := hl i H p
  by_cases hlt : i < kas.length
  · refine .inr ⟨⟨q, hlt⟩, Pv (i + 1), fun H' p' => ⟨kas.length - (i + 1), by omega, rfl, hlt, p'⟩, fun x H' y => ?_⟩
    obtain ⟨rfl, e, he, rfl⟩ := y
    exact hs i e _ he p
  · have e : i = kas.length := by omega
    subst e
    exact .inl ⟨⟨q, Nat.le_refl _⟩, hd H p⟩
end
/-! ### counting -/
def entC (L : List Sd2) (e : Addr × Sd2) : Ent := (kSd e.2, e.1, .int ((L.count e.2 : Nat) : Int))
theorem valE_map {L : List Sd2} : ∀ {es : List (Addr × Sd2)} (u : Sd2), valE (es.map (entC L)) (kSd u) = if u ∈ es.map (·.2) then some (.int ((L.count u : Nat) : Int)) else none
  | [], u => rfl
  | e :: r, u => by
    have ih := valE_map (L := L) (es := r) u
    unfold valE at ih ⊢
    rw [List.map_cons, List.find?_cons]
    by_cases h : e.2 = u
    · have : decide ((entC L e).1 = kSd u) = true := decide_eq_true (by show kSd e.2 = kSd u; rw [h])
      rw [this, if_pos (by rw [List.map_cons, h]; exact List.mem_cons_self)]
      show some (V.int ((L.count e.2 : Nat) : Int)) = _
      rw [h]
    · have : decide ((entC L e).1 = kSd u) = false := decide_eq_false fun z => h (kSd_inj z)
      rw [this]
      dsimp only
      rw [ih]
      have : (u ∈ (e :: r).map (·.2)) ↔ u ∈ r.map (·.2) := by
        rw [List.map_cons, List.mem_cons]
        exact ⟨fun z => z.elim (fun z => absurd z.symm h) id, .inr⟩
      simp only [this]
theorem keys_C {H : Hp} {L : List Sd2} {es : List (Addr × Sd2)} (h : ∀ e ∈ es, SdAt H e.1 e.2) : Keys H (es.map (entC L)) := fun x hx => by
  obtain ⟨e, he, rfl⟩ := List.mem_map.mp hx
  exact ⟨(h e he).nk, kSd_dp _⟩
theorem putE_C {L : List Sd2} {es : List (Addr × Sd2)} {b : Addr} {u : Sd2} (hL : ∀ z, z ∈ es.map (·.2) ↔ z ∈ L) :
    putE (es.map (entC L)) (kSd u) b (.int ((L.count u : Int) + 1)) = (if u ∈ L then es else es ++ [(b, u)]).map (entC (L ++ [u])) := by
  have cnt : (L ++ [u]).count u = L.count u + 1 := by rw [List.count_append, List.count_singleton_self]
  have oth : ∀ z, z ≠ u → (L ++ [u]).count z = L.count z := fun z hz => by
    rw [List.count_append, List.count_singleton, if_neg (by simpa using hz.symm)]
    omega
  unfold putE
  rw [valE_map]
  by_cases h : u ∈ L
  · rw [if_pos ((hL u).mpr h), if_pos h]
    simp only [Option.isSome_some, if_true, List.map_map]
    refine List.map_congr_left fun e _ => ?_
    show (if (entC L e).1 = kSd u then _ else _) = _
    by_cases z : e.2 = u
    · rw [if_pos (by show kSd e.2 = _; rw [z])]
      show (kSd e.2, e.1, V.int _) = (kSd e.2, e.1, V.int _)
      rw [z, cnt]
      rfl
    · rw [if_neg (show ¬ (entC L e).1 = kSd u from fun y => z (kSd_inj y))]
      show (kSd e.2, e.1, V.int _) = (kSd e.2, e.1, V.int _)
      rw [oth _ z]
  · rw [if_neg (fun z => h ((hL u).mp z)), if_neg h]
    simp only [Option.isSome_none, Bool.false_eq_true, if_false, List.map_append, List.map_cons, List.map_nil]
    congr 1
    · refine List.map_congr_left fun e he => ?_
      have z : e.2 ≠ u := fun z => h ((hL u).mp (List.mem_map.mpr ⟨e, he, z⟩))
      show (kSd e.2, e.1, V.int _) = (kSd e.2, e.1, V.int _)
      rw [oth _ z]
    · show [(kSd u, b, V.int _)] = [(kSd u, b, V.int _)]
      rw [cnt]
      rfl
/-- the dict at d holds how often each side was met -/
def CInv (w : World) (H0 : Hp) (d : Addr) (L : List Sd2) (H : Hp) : Prop := ∃ es : List (Addr × Sd2), H d = some (DN w d (es.map (entC L))) ∧ Ex H0 H ∧ (∀ e ∈ es, SdAt H e.1 e.2) ∧ (es.map (·.2)).Nodup ∧ ∀ u, u ∈ es.map (·.2) ↔ u ∈ L
theorem CInv.mono {w : World} {H0 H H' : Hp} {d : Addr} {L : List Sd2} (e : Ex H H') (h : CInv w H0 d L H) : CInv w H0 d L H' := by
  obtain ⟨es, h1, h2, h3, h4, h5⟩ := h
  exact ⟨es, e _ _ h1, h2.trans e, fun x hx => (h3 x hx).mono (.of e), h4, h5⟩
theorem dn_notup {w : World} {d : Addr} {kas : List Ent} : ∀ vs, DN w d kas ≠ .tup vs := fun vs h => by cases h
theorem s_count {w : World} {H0 H : Hp} {σ : L2.St} {D : Ends} {d b : Addr} {L : List Sd2} {u : Sd2} {i j : Nat} (hd0 : H0 d = none) (ci : CInv w H0 d L H) (hl : L.length < 1000) (hd : σ[i]? = some (some (.ref d))) (hb : σ[j]? = some (some (.ref b))) (hu : SdAt H b u)
    (c : ∀ H1, CInv w H0 d (L ++ [u]) H1 → TEx H H1 → (∀ a o, a ≠ d → H a = some o → H1 a = some o) → D.nx σ H1) : sPutN w (tVar i) (tVar j) (tOp oAdd (tGet2N w (tVar i) (tVar j) (tC (.int 0))) (tC (.int 1))) D σ H := by
  obtain ⟨es, h1, h2, h3, h4, h5⟩ := ci
  have lenE : es.length ≤ L.length := by
    have := nodup_len h4 fun o ho => (h5 o).mp ho
    rwa [List.length_map] at this
  have val : (valE (es.map (entC L)) (kSd u)).getD (.int 0) = .int ((L.count u : Nat) : Int) := by
    rw [valE_map]
    by_cases z : u ∈ es.map (·.2)
    · rw [if_pos z]; rfl
    · rw [if_neg z, List.count_eq_zero.mpr (fun y => z ((h5 u).mpr y))]
      rfl
  have g := ev_get2N (w := w) (σ := σ) (H := H) (td := tVar i) (ty := tVar j) (tx := tC (.int 0)) (x := .int 0) (k := kSd u) (ev_var hd) (ev_var hb) ev_c (.inl h1) (keys_C h3) hu.nk (kSd_dp u)
  rw [val] at g
  refine s_putN (v := .int ((L.count u : Int) + 1)) (ev_op (y := .int 1) g ev_c rv_I0) (ev_var hd) (ev_var hb) h1 (keys_C h3) hu.nk (kSd_dp u) (by rw [List.length_map]; omega) fun H1 e1 => ?_
  have t1 : TEx H (upd H1 d (DN w d (putE (es.map (entC L)) (kSd u) b (.int ((L.count u : Int) + 1))))) := (TEx.of e1).trans (TEx.upd (e1 _ _ h1) dn_notup)
  refine c _ ⟨if u ∈ L then es else es ++ [(b, u)], ?_, Ex.mut (h2.trans e1) hd0, ?_, ?_, ?_⟩ t1 (fun a o ha ho => by rw [upd_ne ha]; exact e1 _ _ ho)
  · rw [upd_same, putE_C h5]
  · intro e he
    split at he
    · exact (h3 e he).mono t1
    · rcases List.mem_append.mp he with he | he
      · exact (h3 e he).mono t1
      · have : e = (b, u) := by simpa using he
        rw [this]
        exact hu.mono t1
  · split
    · exact h4
    · rename_i hn
      rw [List.map_append]
      refine List.nodup_append.mpr ⟨h4, by simp, fun a ha z hz e => ?_⟩
      have : z = u := by simpa using hz
      exact hn ((h5 u).mp (by rw [← this, ← e]; exact ha))
  · intro z
    split
    · rename_i hn
      rw [h5 z, List.mem_append]
      exact ⟨.inl, fun y => y.elim id fun y => by have : z = u := by simpa using y
                                                  rw [this]; exact hn⟩
    · rw [List.map_append, List.mem_append, List.mem_append, h5 z]
      simp
/-! ### _law_sides -/
/-- a new list of sides: just the rim's -/
def NewRim (S : Cell → Bool) (H1 : Hp) (v : V) (H2 : Hp) : Prop := ∃ p as us, v = .ref p ∧ H1 p = none ∧ H2 p = some (.lst (as.map V.ref)) ∧ Paired (SdAt H2) as us ∧ IsRim S us ∧ us.length ≤ 200
def sp_l_sides (K : PySem.W.Frag) : Sp := fun vs H Q _ => ∃ g c h w cs, vs = [.ref g, .ref c] ∧ SqT K H g [.int ((h : Nat) : Int), .int ((w : Nat) : Int)] ∧ GOk h w ∧ SqL K H c ((cs : List Int).map V.int) ∧ COk h w cs ∧ RetP (NewRim (Sc h w cs)) H Q
theorem ep_l_sides {K : PySem.W.Frag} {σ : L2.St} {H : Hp} {ta : TA} {E : XK} {g c : Addr} {h w : Nat} {cs : List Int} (ha : EvA ta σ H [.ref g, .ref c]) (hs : SqT K H g [.int (h : Int), .int (w : Int)]) (gk : GOk h w) (hc : SqL K H c (cs.map V.int)) (ck : COk h w cs) :
    EvP (tCall (sp_l_sides K) [] E ta) σ H (NewRim (Sc h w cs)) := fun H1 e Q q =>
  ha H1 e _ fun H2 e2 => ⟨g, c, h, w, cs, rfl, ex_t (e.trans e2) hs, gk, ex_l (e.trans e2) hc, ck, fun v H3 e3 z => q v H3 (e2.trans e3) (by
    obtain ⟨p, as, us, h1, h2, h3⟩ := z
    exact ⟨p, as, us, h1, fresh_back e2 h2, h3⟩)⟩
def t_l_sides (K : PySem.W.Frag) (w : World) : TS := (tSeq (tAsg (tDNew w) (gName 2))
      (tSeq (tFor (iList K (tVar 1)) (gName 3) (tSeq (tPar 4 5 (tCons (tOp oDiv (tVar 3) (tOp (rIxT K) (tVar 0) (tC (.int 1)))) (tCons (tOp oMod (tVar 3) (tOp (rIxT K) (tVar 0) (tC (.int 1)))) tNil)))
      (tSeq (tAsg (tLst (tCons (tTup (tCons (tTup (tCons (tVar 4) (tCons (tVar 5) tNil))) (tCons (tTup (tCons (tVar 4) (tCons (tOp oAdd (tVar 5) (tC (.int 1))) tNil))) tNil))) (tCons (tTup (tCons (tTup (tCons (tOp oAdd (tVar 4) (tC (.int 1))) (tCons (tVar 5) tNil))) (tCons (tTup (tCons (tOp oAdd (tVar 4) (tC (.int 1))) (tCons (tOp oAdd (tVar 5) (tC (.int 1))) tNil))) tNil))) tNil))) (gName 6))
      (tFor (iList K (tOp rCat (tVar 6) (tLst (tCons (tTup (tCons (tTup (tCons (tVar 4) (tCons (tVar 5) tNil))) (tCons (tTup (tCons (tOp oAdd (tVar 4) (tC (.int 1))) (tCons (tVar 5) tNil))) tNil))) (tCons (tTup (tCons (tTup (tCons (tVar 4) (tCons (tOp oAdd (tVar 5) (tC (.int 1))) tNil))) (tCons (tTup (tCons (tOp oAdd (tVar 4) (tC (.int 1))) (tCons (tOp oAdd (tVar 5) (tC (.int 1))) tNil))) tNil))) tNil))))) (gName 7) (sPutN w (tVar 2) (tVar 7) (tOp oAdd (tGet2N w (tVar 2) (tVar 7) (tC (.int 0))) (tC (.int 1))))))))
      (tRet (tLockE (tLc (iKeysN w (tVar 2)) (gName 7) (tTest (tOp rEq (tGetN w (tVar 2) (tVar 7)) (tC (.int 1)))) (tVar 7) [7])))))
theorem cells_sc {h w : Nat} (gk : GOk h w) {cs : List Int} (ck : COk h w cs) : (cs.map (cellOf w)).Nodup ∧ ∀ x, x ∈ cs.map (cellOf w) ↔ Sc h w cs x = true := by
  constructor
  · have nd : cs.Pairwise (· < ·) := ck.2.2
    unfold List.Nodup
    rw [List.pairwise_map]
    refine nd.imp fun {a b} hab z => ?_
    have h1 := idx_cell gk a
    rw [z, idx_cell gk b] at h1
    omega
  · intro x
    rw [sc_iff, List.mem_map]
    constructor
    · rintro ⟨n, hn, rfl⟩
      have := ck.2.1 n hn
      exact ⟨cell_inG gk this.1 this.2, by rw [idx_cell gk]; exact hn⟩
    · rintro ⟨h1, h2⟩
      exact ⟨_, h2, cell_idx gk h1⟩
theorem allSides_snoc (l : List Cell) (x : Cell) : allSides (l ++ [x]) = allSides l ++ cellSides x := by
  unfold allSides
  rw [List.flatMap_append, List.flatMap_cons, List.flatMap_nil, List.append_nil]
theorem allSides_len (l : List Cell) : (allSides l).length = 4 * l.length := by
  unfold allSides
  induction l with
  | nil => rfl
  | cons a r ih => rw [List.flatMap_cons, List.length_append, ih, List.length_cons]; show 4 + _ = _; omega
theorem cells_len {h w : Nat} (gk : GOk h w) {cs : List Int} (ck : COk h w cs) : cs.length ≤ 36 := by
  have nd : cs.Nodup := List.Pairwise.imp (fun a => by omega) ck.2.2
  have := nodup_sub (m := (List.range 36).map fun (i : Nat) => (i : Int)) nd fun o ho => by
    have b := ck.2.1 o ho
    have := hw_le gk
    exact List.mem_map.mpr ⟨o.toNat, List.mem_range.mpr (by omega), by omega⟩
  rwa [List.length_map, List.length_range] at this
theorem pure_l_sides {K : PySem.W.Frag} {w : World} {vs : List V} {H : Hp} {Q : VK} {E : XK} {D : Ends} (hD : D.rt = Q) {N : List Str} (hN : N.length = 8) (h : sp_l_sides K vs H Q E) : t_l_sides K w D (start N vs) H := by
  obtain ⟨g, c, h, wd, cs, rfl, hs, gk, hc, ck, q⟩ := h
  subst hD
  rw [start_eq hN]
  change t_l_sides K w D [some (.ref g), some (.ref c), none, none, none, none, none, none] H
  have gb := gk
  obtain ⟨g1, g2, g3, g4⟩ := gb
  have cl := cells_len gk ck
  refine q_dnew fun d H1 hd e1 h1 => ?_
  refine q_forLn (j := 3) (ev_var rfl) (ex_l e1 hc) (fun i σ' H' => ∃ y3 y4 y5 y6 y7, σ' = [some (.ref g), some (.ref c), some (.ref d), y3, y4, y5, y6, y7] ∧ CInv w H d (allSides ((cs.take i).map (cellOf wd))) H') (fun H2 e2 => ⟨none, none, none, none, none, rfl, [], (e1.trans e2 |> fun e => e2 _ _ h1), e1.trans e2, (fun e he => nomatch he), List.Pairwise.nil, fun u => ⟨fun z => (nomatch z), fun z => (nomatch z)⟩⟩)
    (fun i σ' H' _ hP => by
      obtain ⟨_, _, _, _, _, _, es, _, e', _⟩ := hP
      exact ex_l e' hc) (fun i x σ' H' hi hP => ?_) (fun σ' H' hP => ?_)
  · obtain ⟨y3, y4, y5, y6, y7, rfl, ci⟩ := hP
    rw [List.getElem?_map] at hi
    obtain ⟨n, hn, rfl⟩ := Option.map_eq_some_iff.mp hi
    have hil : i < cs.length := (List.getElem?_eq_some_iff.mp hn).1
    have eH : Ex H H' := by obtain ⟨es, _, e', _⟩ := ci; exact e'
    have hs' := ex_t eH hs
    refine q_par (i := 4) (j := 5) (x := .int (n / (wd : Int))) (y := .int (n % (wd : Int))) (by walk_at "ev") (by walk_at "ev") fun H2 e2 => ?_
    have ci2 := ci.mono e2
    generalize hr : n / (wd : Int) = r
    generalize ha : n % (wd : Int) = a
    refine q_asgSds (i := 6) (us := [((r, a), (r, a + 1)), ((r + 1, a), (r + 1, a + 1))]) (eas_cons (esd (ept (by walk_at "ev") (by walk_at "ev")) (ept (by walk_at "ev") (by walk_at "ev"))) (eas_cons (esd (ept (by walk_at "ev") (by walk_at "ev")) (ept (by walk_at "ev") (by walk_at "ev"))) eas_nil)) (by simp) fun l as H3 hl e3 h3 hp3 => ?_
    have ci3 := ci2.mono e3
    have eas : EvASd (tCons (tTup (tCons (tTup (tCons (tVar 4) (tCons (tVar 5) tNil))) (tCons (tTup (tCons (tOp oAdd (tVar 4) (tC (.int 1))) (tCons (tVar 5) tNil))) tNil))) (tCons (tTup (tCons (tTup (tCons (tVar 4) (tCons (tOp oAdd (tVar 5) (tC (.int 1))) tNil))) (tCons (tTup (tCons (tOp oAdd (tVar 4) (tC (.int 1))) (tCons (tOp oAdd (tVar 5) (tC (.int 1))) tNil))) tNil))) tNil))
        [some (.ref g), some (.ref c), some (.ref d), some (.int n), some (.int r), some (.int a), some (.ref l), y7] H3 [((r, a), (r + 1, a)), ((r, a + 1), (r + 1, a + 1))] :=
      eas_cons (esd (ept (by walk_at "ev") (by walk_at "ev")) (ept (by walk_at "ev") (by walk_at "ev"))) (eas_cons (esd (ept (by walk_at "ev") (by walk_at "ev")) (ept (by walk_at "ev") (by walk_at "ev"))) eas_nil)
    have ln0 : (allSides ((cs.take i).map (cellOf wd))).length ≤ 200 := by
      rw [allSides_len, List.length_map, List.length_take]
      omega
    refine s_forSd (K := K) (us := cellSides (r, a)) (els_cat h3 hp3 (ev_var rfl) eas (by simp)) (fun p as' k σ' H' => p ≠ d ∧ H' p = some (.lst (as'.map V.ref)) ∧ Paired (SdAt H') as' (cellSides (r, a)) ∧ ∃ y7, σ' = [some (.ref g), some (.ref c), some (.ref d), some (.int n), some (.int r), some (.int a), some (.ref l), y7] ∧ CInv w H d (allSides ((cs.take i).map (cellOf wd)) ++ (cellSides (r, a)).take k) H')
      (fun p as' H4 hp e4 h4 hpr => ⟨fun z => ?_, h4, hpr, y7, rfl, ?_⟩) (fun p as' k σ' H' z => ⟨z.2.1, z.2.2.1⟩) (fun p as' k b u σ' H4 hu hb z => ?_) (fun p as' σ' H4 z => ?_)
    · obtain ⟨es, hz, _⟩ := ci3
      rw [← z, hp] at hz
      cases hz
    · rw [List.take_zero, List.append_nil]
      exact ci3.mono e4
    · obtain ⟨pd, hp4, pr4, y7', rfl, ci4⟩ := z
      show sPutN _ _ _ _ _ _ _
      refine s_count (u := u) (b := b) hd ci4 ?_ rfl rfl hb fun H5 ci5 t5 k5 => ⟨pd, k5 _ _ pd hp4, sds_mono t5 pr4, _, rfl, ?_⟩
      · rw [List.length_append, List.length_take, show (cellSides (r, a)).length = 4 from rfl]
        omega
      · rw [List.append_assoc] at ci5
        rw [take_snoc hu]
        exact ci5
    · obtain ⟨_, _, _, y7', rfl, ci4⟩ := z
      refine ⟨_, _, _, _, _, rfl, ?_⟩
      rw [List.take_length] at ci4
      rw [take_snoc hn, List.map_append, List.map_cons, List.map_nil, allSides_snoc]
      have : cellOf wd n = (r, a) := by unfold cellOf; rw [hr, ha]
      rw [this]
      exact ci4
  · obtain ⟨y3, y4, y5, y6, y7, rfl, ci⟩ := hP
    rw [List.length_map, List.take_length] at ci
    obtain ⟨cn, cm⟩ := cells_sc gk ck
    have cr := count_rim cn cm
    have al : (allSides (cs.map (cellOf wd))).length ≤ 200 := by
      rw [allSides_len, List.length_map]
      omega
    generalize allSides (cs.map (cellOf wd)) = L at ci cr al
    obtain ⟨es, i1, i2, i3, i4, i5⟩ := ci
    have el : es.length ≤ 200 := by
      have := nodup_len i4 fun o ho => (i5 o).mp ho
      rw [List.length_map] at this
      omega
    refine ⟨d, _, i1, True.intro, fun od => ?_⟩
    have tx : TEx H' (upd H' d (.frz od (DN w d (es.map (entC L))))) := TEx.upd i1 dn_notup
    have dl : upd H' d (.frz od (DN w d (es.map (entC L)))) d = some (.frz od (DN w d (es.map (entC L)))) := upd_same
    have un : ∀ H2, Ex (upd H' d (.frz od (DN w d (es.map (entC L))))) H2 → Ex H' (upd H2 d (DN w d (es.map (entC L)))) := fun H2 e2 a o ho => by
      by_cases z : a = d
      · subst z
        rw [i1] at ho
        rw [upd_same, Option.some.inj ho]
      · rw [upd_ne z]
        exact e2 _ _ (by rw [upd_ne z]; exact ho)
    have i3' : ∀ e ∈ es, SdAt (upd H' d (.frz od (DN w d (es.map (entC L))))) e.1 e.2 := fun e he => (i3 e he).mono tx
    have fr : ∀ a, upd H' d (.frz od (DN w d (es.map (entC L)))) a = none → H a = none := fun a ha => by
      by_cases z : a = d
      · rw [z, upd_same] at ha
        cases ha
      · rw [upd_ne z] at ha
        exact fresh_back i2 ha
    generalize upd H' d (.frz od (DN w d (es.map (entC L)))) = HL at *
    refine ⟨_, rfl, d, od, es.map (entC L), rfl, dl, fun Dl hD => ?_⟩
    refine lc_N (fun k => Grow HL Dl (((es.take k).filter fun e => decide (L.count e.2 = 1)).map fun e => V.ref e.1)) ⟨hD, Ex.new hD, upd_same⟩ (fun k H2 z => z.2.1 _ _ dl) (fun k e H2 hk z => ?_) (fun H2 z => ?_)
    · rw [List.getElem?_map] at hk
      obtain ⟨e, he, rfl⟩ := Option.map_eq_some_iff.mp hk
      have hm : e ∈ es := List.mem_of_getElem? he
      refine ⟨rfl, ?_⟩
      have hlen : (((es.take k).filter fun e => decide (L.count e.2 = 1)).map fun e => V.ref e.1).length < 100000 := by
        rw [List.length_map]
        have h1 := List.length_filter_le (fun e : Addr × Sd2 => decide (L.count e.2 = 1)) (es.take k)
        have h2 : (es.take k).length ≤ es.length := by rw [List.length_take]; omega
        omega
      have gv := ev_getN (w := w) (σ := [some (.ref g), some (.ref c), some (.ref d), y3, y4, y5, y6, some (.ref e.1)]) (H := HL) (td := tVar 2) (ty := tVar 7) (k := kSd e.2) (v := .int ((L.count e.2 : Nat) : Int)) (ev_var rfl) (ev_var rfl) (.inr ⟨od, dl⟩) (keys_C i3') (i3' e hm).nk (kSd_dp _) (by rw [valE_map, if_pos (List.mem_map.mpr ⟨e, hm, rfl⟩)])
      have wt := grow_turn (t := tTest (tOp rEq (tGetN w (tVar 2) (tVar 7)) (tC (.int 1)))) (te := tVar 7) (w := V.ref e.1) (b0 := decide (L.count e.2 = 1)) (σ2 := [some (.ref g), some (.ref c), some (.ref d), y3, y4, y5, y6, some (.ref e.1)]) z hlen (et_is (et_test (ev_op (y := .int 1) gv ev_c (rv_eq rfl))) (by rw [Bool.eq_iff_iff]; simp; omega)) (fun _ => ev_var rfl)
      have e2 : (((es.take (k + 1)).filter fun e => decide (L.count e.2 = 1)).map fun e => V.ref e.1) = (((es.take k).filter fun e => decide (L.count e.2 = 1)).map fun e => V.ref e.1) ++ if decide (L.count e.2 = 1) = true then [V.ref e.1] else [] := by
        rw [take_snoc he, List.filter_append, List.map_append]
        congr 1
        cases hf : decide (L.count e.2 = 1) <;> simp [hf]
      rw [e2]
      exact wt
    · obtain ⟨z1, z2, z3⟩ := z
      rw [List.length_map, List.take_length] at z3
      have hDd : Dl ≠ d := fun y => by rw [y, dl] at hD; cases hD
      refine ⟨z2 _ _ dl, q (.ref Dl) _ (i2.trans (un H2 z2)) ⟨Dl, (es.filter fun e => decide (L.count e.2 = 1)).map (·.1), (es.filter fun e => decide (L.count e.2 = 1)).map (·.2), rfl, fr Dl hD, ?_, ?_, ⟨?_, fun u => ?_⟩, ?_⟩⟩
      · rw [upd_ne hDd, z3, List.map_map]
        rfl
      · have tb : TEx HL (upd H2 d (DN w d (es.map (entC L)))) := (TEx.of z2).trans (TEx.upd (z2 _ _ dl) (fun vs y => by cases y))
        have key : ∀ l : List (Addr × Sd2), (∀ e ∈ l, SdAt HL e.1 e.2) → Paired (SdAt (upd H2 d (DN w d (es.map (entC L))))) (l.map (·.1)) (l.map (·.2)) := fun l => by
          induction l with
          | nil => intro _; exact .nil
          | cons e r ih => intro hh; exact .cons ((hh e List.mem_cons_self).mono tb) (ih fun x hx => hh x (List.mem_cons_of_mem _ hx))
        exact key _ fun e he => i3' e (List.mem_filter.mp he).1
      · exact (i4.sublist ((List.filter_sublist).map _))
      · rw [← cr u, List.mem_map]
        constructor
        · rintro ⟨e, he, rfl⟩
          exact of_decide_eq_true (List.mem_filter.mp he).2
        · intro hc1
          have : u ∈ es.map (·.2) := (i5 u).mpr (List.count_pos_iff.mp (by omega))
          obtain ⟨e, he, rfl⟩ := List.mem_map.mp this
          exact ⟨e, List.mem_filter.mpr ⟨he, decide_eq_true hc1⟩, rfl⟩
      · rw [List.length_map]
        exact Nat.le_trans (List.length_filter_le _ _) el

/-! ### _law_points -/
open Sd.J
/-- by directed sides: where one comes to from p -/
def nbD (ds : List Sd2) (p : Pt) : List Pt := (ds.filter fun e => decide (e.1 = p)).map (·.2)
def dirs (us : List Sd2) : List Sd2 := us.flatMap fun u => [(u.1, u.2), (u.2, u.1)]
theorem nbD_snoc (ds : List Sd2) (p q z : Pt) : nbD (ds ++ [(p, q)]) z = if p = z then nbD ds z ++ [q] else nbD ds z := by
  unfold nbD
  rw [List.filter_append, List.map_append]
  by_cases h : p = z
  · rw [if_pos h]
    congr 1
    simp [h]
  · rw [if_neg h]
    simp [h]
theorem nbrs_dirs (us : List Sd2) (p : Pt) : nbD (dirs us) p = nbrs us p := by
  unfold nbrs dirs
  induction us with
  | nil => rfl
  | cons u r ih =>
    rw [List.flatMap_cons, List.flatMap_cons, ← ih]
    unfold nbD
    rw [List.filter_append, List.map_append]
    congr 1
    by_cases h1 : u.1 = p <;> by_cases h2 : u.2 = p <;> simp [h1, h2]
theorem dirs_len (us : List Sd2) : (dirs us).length = 2 * us.length := by
  unfold dirs
  induction us with
  | nil => rfl
  | cons a r ih => rw [List.flatMap_cons, List.length_append, ih, List.length_cons]; show 2 + 2 * r.length = 2 * (r.length + 1); omega
theorem dirs_snoc (us : List Sd2) (u : Sd2) : dirs (us ++ [u]) = dirs us ++ [(u.1, u.2)] ++ [(u.2, u.1)] := by
  unfold dirs
  rw [List.flatMap_append, List.flatMap_cons, List.flatMap_nil, List.append_nil, List.append_assoc]
  rfl
theorem nbD_len (ds : List Sd2) (p : Pt) : (nbD ds p).length ≤ ds.length := by
  unfold nbD
  rw [List.length_map]
  exact List.length_filter_le _ _
/-- an entry: point, where it stands, its list, what is in it -/
abbrev PtE := Pt × Addr × Addr × List Addr
def entP (e : PtE) : Ent := (kPt e.1, e.2.1, .ref e.2.2.1)
theorem valP_none {ks : List PtE} {p : Pt} (h : p ∉ ks.map (·.1)) : valE (ks.map entP) (kPt p) = none := by
  unfold valE
  rw [Option.map_eq_none_iff, List.find?_eq_none]
  intro x hx
  obtain ⟨e, he, rfl⟩ := List.mem_map.mp hx
  intro z
  have z := of_decide_eq_true z
  exact h (List.mem_map.mpr ⟨e, he, kPt_inj z⟩)
theorem valP_some : ∀ {ks : List PtE} {e : PtE}, (ks.map (·.1)).Nodup → e ∈ ks → valE (ks.map entP) (kPt e.1) = some (.ref e.2.2.1)
  | k :: r, e, hn, he => by
    unfold valE
    rw [List.map_cons, List.find?_cons]
    rw [List.map_cons, List.nodup_cons] at hn
    rcases List.mem_cons.mp he with rfl | he
    · have : decide ((entP e).1 = kPt e.1) = true := decide_eq_true rfl
      rw [this]
      rfl
    · have : decide ((entP k).1 = kPt e.1) = false := decide_eq_false fun z => hn.1 (List.mem_map.mpr ⟨e, he, (kPt_inj z).symm⟩)
      rw [this]
      exact valP_some hn.2 he
theorem keys_P {H : Hp} {ks : List PtE} (h : ∀ e ∈ ks, PtAt H e.2.1 e.1) : Keys H (ks.map entP) := fun x hx => by
  obtain ⟨e, he, rfl⟩ := List.mem_map.mp hx
  exact ⟨(h e he).nk, kPt_dp _⟩
theorem nd_inj {α β : Type} {f : α → β} : ∀ {l : List α} {x y : α}, (l.map f).Nodup → x ∈ l → y ∈ l → f x = f y → x = y
  | a :: r, x, y, hn, hx, hy, h => by
    rw [List.map_cons, List.nodup_cons] at hn
    rcases List.mem_cons.mp hx with rfl | hx
    · rcases List.mem_cons.mp hy with rfl | hy
      · rfl
      · exact absurd (List.mem_map.mpr ⟨y, hy, h.symm⟩) hn.1
    · rcases List.mem_cons.mp hy with e | hy
      · exact absurd (List.mem_map.mpr ⟨x, hx, h.trans (by rw [e])⟩) hn.1
      · exact nd_inj hn.2 hx hy h
def updE (p : Pt) (b : Addr) (x : PtE) : PtE := if x.1 = p then (x.1, x.2.1, x.2.2.1, x.2.2.2 ++ [b]) else x
theorem updE_1 (p : Pt) (b : Addr) (x : PtE) : (updE p b x).1 = x.1 := by
  unfold updE
  split <;> rfl
theorem updE_l (p : Pt) (b : Addr) (x : PtE) : (updE p b x).2.2.1 = x.2.2.1 := by
  unfold updE
  split <;> rfl
theorem updE_e (p : Pt) (b : Addr) (x : PtE) : entP (updE p b x) = entP x := by
  unfold updE
  split <;> rfl
def PInv (w : World) (H0 : Hp) (d : Addr) (ds : List Sd2) (H : Hp) : Prop := ∃ ks : List PtE, H d = some (DN w d (ks.map entP)) ∧ Ex H0 H ∧ (∀ e ∈ ks, PtAt H0 e.2.1 e.1 ∧ H0 e.2.2.1 = none ∧ e.2.2.1 ≠ d ∧ H e.2.2.1 = some (.lst (e.2.2.2.map V.ref)) ∧ Paired (PtAt H0) e.2.2.2 (nbD ds e.1)) ∧
  (ks.map (·.1)).Nodup ∧ (ks.map (·.2.2.1)).Nodup ∧ ∀ p, p ∈ ks.map (·.1) ↔ nbD ds p ≠ []
theorem PInv.mono {w : World} {H0 H H' : Hp} {d : Addr} {ds : List Sd2} (e : Ex H H') (h : PInv w H0 d ds H) : PInv w H0 d ds H' := by
  obtain ⟨ks, h1, h2, h3, h4⟩ := h
  exact ⟨ks, e _ _ h1, h2.trans e, fun x hx => ⟨(h3 x hx).1, (h3 x hx).2.1, (h3 x hx).2.2.1, e _ _ (h3 x hx).2.2.2.1, (h3 x hx).2.2.2.2⟩, h4⟩
theorem s_near {K : PySem.W.Frag} {w : World} {H0 H : Hp} {σ : L2.St} {D : Ends} {d a b : Addr} {ds : List Sd2} {p q : Pt} {i j k : Nat} (hd0 : H0 d = none) (pi : PInv w H0 d ds H) (hl : ds.length < 1000) (hd : σ[i]? = some (some (.ref d))) (ha : σ[j]? = some (some (.ref a))) (hb : σ[k]? = some (some (.ref b))) (hp : PtAt H0 a p) (hq : PtAt H0 b q)
    (c : ∀ H1, PInv w H0 d (ds ++ [(p, q)]) H1 → D.nx σ H1) : tDrop (tBM K "list" rAppend (tSetdN w (tVar i) (tVar j) (tLst tNil)) (tCons (tVar k) tNil)) D σ H := by
  obtain ⟨ks, h1, h2, h3, h4, h5, h6⟩ := pi
  have kl : ks.length ≤ ds.length := by
    have := nodup_len (m := ds.map (·.1)) h4 fun o ho => by
      obtain ⟨z, hz⟩ := List.exists_mem_of_ne_nil _ ((h6 o).mp ho)
      unfold nbD at hz
      obtain ⟨e, he, _⟩ := List.mem_map.mp hz
      obtain ⟨e1, e2⟩ := List.mem_filter.mp he
      exact List.mem_map.mpr ⟨e, e1, of_decide_eq_true e2⟩
    rwa [List.length_map, List.length_map] at this
  refine ⟨_, hd, d, _, rfl, .inl h1, _, ha, sz_of (by simp), fun l0 hl0 => ?_⟩
  have e3 : Ex H (upd H l0 (.lst [])) := Ex.new hl0
  have l0d : l0 ≠ d := fun z => by rw [z, h1] at hl0; cases hl0
  have l00 : H0 l0 = none := fresh_back h2 hl0
  have l3 : upd H l0 (.lst []) l0 = some (.lst []) := upd_same
  have keepN : ∀ e ∈ ks, e.2.2.1 ≠ l0 := fun e he z => by
    have := (h3 e he).2.2.2.1
    rw [z, hl0] at this
    cases this
  generalize upd H l0 (.lst []) = H3 at *
  refine ⟨ks.map entP, kPt p, a, rfl, e3 _ _ h1, keys_P fun e he => (h3 e he).1.mono (.of (h2.trans e3)), (hp.mono (.of (h2.trans e3))).nk, kPt_dp p, sz_lt (by rw [List.length_map]; omega), fun v hv => ?_, fun hv => ?_⟩
  · -- met before
    have hm : p ∈ ks.map (·.1) := Classical.byContradiction fun hn => by rw [valP_none hn] at hv; cases hv
    obtain ⟨e, he, rfl⟩ := List.mem_map.mp hm
    rw [valP_some h4 he] at hv
    obtain rfl := Option.some.inj hv
    obtain ⟨k1, k2, k3, k4, k5⟩ := h3 e he
    have bl : e.2.2.2.length ≤ ds.length := by rw [Paired.length k5]; exact nbD_len ds e.1
    refine ⟨Or.inl ⟨rfl, _, sq_of (e3 _ _ k4)⟩, _, hb, e.2.2.1, e.2.2.2.map V.ref, .ref b, rfl, rfl, e3 _ _ k4, sz_lt (by rw [List.length_map]; omega), c _ ?_⟩
    refine ⟨ks.map (updE e.1 b), ?_, Ex.mut (h2.trans e3) k2, ?_, ?_, ?_, ?_⟩
    · rw [upd_ne k3.symm, e3 _ _ h1, List.map_map]
      congr 2
      exact List.map_congr_left fun x _ => (updE_e e.1 b x).symm
    · intro x hx
      obtain ⟨y, hy, rfl⟩ := List.mem_map.mp hx
      obtain ⟨y1, y2, y3, y4, y5⟩ := h3 y hy
      by_cases z : y.1 = e.1
      · have : y = e := nd_inj h4 hy he z
        subst this
        rw [show updE y.1 b y = (y.1, y.2.1, y.2.2.1, y.2.2.2 ++ [b]) from if_pos rfl]
        refine ⟨y1, y2, y3, ?_, ?_⟩
        · dsimp only
          rw [upd_same, List.map_append]
          rfl
        · dsimp only
          rw [nbD_snoc, if_pos rfl]
          exact pair_snoc y5 hq
      · rw [show updE e.1 b y = y from if_neg z]
        refine ⟨y1, y2, y3, ?_, ?_⟩
        · have : y.2.2.1 ≠ e.2.2.1 := fun w => z (by rw [nd_inj h5 hy he w])
          rw [upd_ne this]
          exact e3 _ _ y4
        · rw [nbD_snoc, if_neg (fun w => z w.symm)]
          exact y5
    · rw [List.map_map, show ks.map ((fun x : PtE => x.1) ∘ updE e.1 b) = ks.map (·.1) from List.map_congr_left fun x _ => updE_1 e.1 b x]
      exact h4
    · rw [List.map_map, show ks.map ((fun x : PtE => x.2.2.1) ∘ updE e.1 b) = ks.map (·.2.2.1) from List.map_congr_left fun x _ => updE_l e.1 b x]
      exact h5
    · intro z
      rw [List.map_map, show ks.map ((fun x : PtE => x.1) ∘ updE e.1 b) = ks.map (·.1) from List.map_congr_left fun x _ => updE_1 e.1 b x, nbD_snoc]
      by_cases y : e.1 = z
      · rw [if_pos y]
        exact ⟨fun _ => by simp, fun _ => by rw [← y]; exact hm⟩
      · rw [if_neg y]
        exact h6 z
  · -- new
    have hm : p ∉ ks.map (·.1) := fun hm => by
      obtain ⟨e, he, rfl⟩ := List.mem_map.mp hm
      rw [valP_some h4 he] at hv
      cases hv
    have hnb : nbD ds p = [] := Classical.byContradiction fun z => hm ((h6 p).mpr z)
    have pe : putE (ks.map entP) (kPt p) a (.ref l0) = (ks ++ [(p, a, l0, [b])]).map entP := by
      unfold putE
      rw [hv, List.map_append]
      rfl
    rw [pe]
    have l4 : upd H3 d (DN w d ((ks ++ [(p, a, l0, [b])]).map entP)) l0 = some (.lst []) := by rw [upd_ne l0d]; exact l3
    refine ⟨Or.inl ⟨rfl, _, sq_of l4⟩, _, hb, l0, [], .ref b, rfl, rfl, l4, sz_lt (by simp), c _ ?_⟩
    refine ⟨ks ++ [(p, a, l0, [b])], ?_, ?_, ?_, ?_, ?_, ?_⟩
    · rw [upd_ne l0d.symm, upd_same]
    · exact Ex.mut (Ex.mut (h2.trans e3) hd0) l00
    · intro x hx
      rcases List.mem_append.mp hx with hx | hx
      · obtain ⟨y1, y2, y3, y4, y5⟩ := h3 x hx
        refine ⟨y1, y2, y3, ?_, ?_⟩
        · rw [upd_ne (keepN x hx), upd_ne y3]
          exact e3 _ _ y4
        · have : p ≠ x.1 := fun z => hm (List.mem_map.mpr ⟨x, hx, z.symm⟩)
          rw [nbD_snoc, if_neg this]
          exact y5
      · have : x = (p, a, l0, [b]) := by simpa using hx
        subst this
        refine ⟨hp, l00, l0d, ?_, ?_⟩
        · dsimp only
          rw [upd_same]
          rfl
        · dsimp only
          rw [nbD_snoc, if_pos rfl, hnb]
          exact .cons hq .nil
    · rw [List.map_append]
      exact List.nodup_append.mpr ⟨h4, by simp, fun y hy z hz e => hm (by
        have : z = p := by simpa using hz
        rw [← this, ← e]
        exact hy)⟩
    · rw [List.map_append]
      exact List.nodup_append.mpr ⟨h5, by simp, fun y hy z hz e => by
        have : z = l0 := by simpa using hz
        obtain ⟨x, hx, rfl⟩ := List.mem_map.mp hy
        exact keepN x hx (e.trans this)⟩
    · intro z
      rw [List.map_append, List.mem_append, nbD_snoc, h6 z]
      by_cases y : p = z
      · rw [if_pos y]
        exact ⟨fun _ => by simp, fun _ => .inr (by rw [← y]; simp)⟩
      · rw [if_neg y]
        exact ⟨fun h => h.elim id fun h => absurd (by simpa using h : z = p).symm y, .inl⟩
/-- a new dict: each point's neighbours -/
def NewNear (w : World) (us : List Sd2) (H1 : Hp) (v : V) (H2 : Hp) : Prop := ∃ (d : Addr) (ks : List PtE), v = .ref d ∧ H1 d = none ∧ H2 d = some (DN w d (ks.map entP)) ∧ (∀ e ∈ ks, PtAt H2 e.2.1 e.1 ∧ H2 e.2.2.1 = some (.lst (e.2.2.2.map V.ref)) ∧ Paired (PtAt H2) e.2.2.2 (nbrs us e.1)) ∧ (ks.map (·.1)).Nodup ∧ ∀ p, p ∈ ks.map (·.1) ↔ nbrs us p ≠ []
def sp_l_points (K : PySem.W.Frag) (w : World) : Sp := fun vs H Q _ => ∃ s as us, vs = [.ref s] ∧ H s = some (.lst ((as : List Addr).map V.ref)) ∧ Paired (SdAt H) as us ∧ us.length ≤ 200 ∧ RetP (NewNear w us) H Q
theorem ep_l_points {K : PySem.W.Frag} {w : World} {σ : L2.St} {H : Hp} {ta : TA} {E : XK} {s : Addr} {as : List Addr} {us : List Sd2} (ha : EvA ta σ H [.ref s]) (hs : H s = some (.lst (as.map V.ref))) (hp : Paired (SdAt H) as us) (hl : us.length ≤ 200) :
    EvP (tCall (sp_l_points K w) [] E ta) σ H (NewNear w us) := fun H1 e Q q =>
  ha H1 e _ fun H2 e2 => ⟨s, as, us, rfl, (e.trans e2) _ _ hs, sds_mono (.of (e.trans e2)) hp, hl, fun v H3 e3 z => q v H3 (e2.trans e3) (by
    obtain ⟨d, ks, h1, h2, h3⟩ := z
    exact ⟨d, ks, h1, fresh_back e2 h2, h3⟩)⟩
def t_l_points (K : PySem.W.Frag) (w : World) : TS := (tSeq (tAsg (tDNew w) (gName 1))
      (tSeq (tFor (iList K (tVar 0)) (gTup K 2 (gCons (gName 2) (gCons (gName 3) gNil))) (tSeq (tDrop (tBM K "list" rAppend (tSetdN w (tVar 1) (tVar 2) (tLst tNil)) (tCons (tVar 3) tNil)))
      (tDrop (tBM K "list" rAppend (tSetdN w (tVar 1) (tVar 3) (tLst tNil)) (tCons (tVar 2) tNil)))))
      (tRet (tVar 1))))
theorem pure_l_points {K : PySem.W.Frag} {w : World} {vs : List V} {H : Hp} {Q : VK} {E : XK} {D : Ends} (hD : D.rt = Q) {N : List Str} (hN : N.length = 4) (h : sp_l_points K w vs H Q E) : t_l_points K w D (start N vs) H := by
  obtain ⟨s, as, us, rfl, hs, hp, hl, q⟩ := h
  subst hD
  rw [start_eq hN]
  change t_l_points K w D [some (.ref s), none, none, none] H
  refine q_dnew fun d H1 hd e1 h1 => ?_
  refine q_forL (K := K) (xs := as.map V.ref) (ev_var rfl) (sq_of (e1 _ _ hs)) (fun i σ' H' => ∃ y2 y3, σ' = [some (.ref s), some (.ref d), y2, y3] ∧ PInv w H d (dirs (us.take i)) H') (fun H2 e2 => ⟨none, none, rfl, [], e2 _ _ h1, e1.trans e2, (fun e he => nomatch he), List.Pairwise.nil, List.Pairwise.nil, fun u => ⟨fun z => (nomatch z), fun z => absurd rfl z⟩⟩)
    (fun i σ' H' _ hP => by
      obtain ⟨_, _, _, ks, _, e', _⟩ := hP
      exact sq_of (e' _ _ hs)) (fun i x σ' H' hi hP => ?_) (fun σ' H' hP => ?_)
  · obtain ⟨y2, y3, rfl, pi⟩ := hP
    rw [List.getElem?_map] at hi
    obtain ⟨a, ha, rfl⟩ := Option.map_eq_some_iff.mp hi
    obtain ⟨u, hu, pa, pb, k1, k2, k3⟩ := L2.paired_get hp ha
    have eH : Ex H H' := by obtain ⟨ks, _, e', _⟩ := pi; exact e'
    have ln : (dirs (us.take i)).length ≤ 400 := by
      rw [dirs_len, List.length_take]
      omega
    refine ⟨a, _, rfl, st_of (eH _ _ k1), rfl, _, _, rfl, _, _, rfl, rfl, ?_⟩
    refine s_near (K := K) (D := { nx := _, rt := _, bk := _, ct := _ }) (i := 1) (j := 2) (k := 3) (p := u.1) (q := u.2) hd pi (by omega) rfl rfl rfl k2 k3 fun H2 p2 => ?_
    refine s_near (K := K) (i := 1) (j := 3) (k := 2) (p := u.2) (q := u.1) hd p2 (by rw [List.length_append]; simp; omega) rfl rfl rfl k3 k2 fun H3 p3 => ⟨_, _, rfl, ?_⟩
    rw [take_snoc hu, dirs_snoc]
    exact p3
  · obtain ⟨y2, y3, rfl, pi⟩ := hP
    rw [List.length_map, Paired.length hp, List.take_length] at pi
    obtain ⟨ks, h1', h2, h3, h4, h5, h6⟩ := pi
    refine s_ret (ev_var rfl) fun H2 e2 => q _ _ (h2.trans e2) ⟨d, ks, rfl, hd, e2 _ _ h1', fun e he => ?_, h4, fun p => ?_⟩
    · obtain ⟨y1, y2, y3, y4, y5⟩ := h3 e he
      rw [nbrs_dirs] at y5
      exact ⟨y1.mono (.of (h2.trans e2)), e2 _ _ y4, pts_mono (.of (h2.trans e2)) y5⟩
    · rw [h6 p, nbrs_dirs]

/-! ### _law_is_ring -/
open Sd.J
abbrev dPt (p : Pt) : PyData := dP p.1 p.2
theorem PtAt.dp {K : PySem.W.Frag} {H : Hp} {a : Addr} {p : Pt} (h : PtAt H a p) : Dp K H (.ref a) (dPt p) := .tup (st_of h) (.cons (.int _) (.cons (.int _) .nil))
theorem eqv_dPt (p q : Pt) : PyData.eqv (dPt p) (dPt q) = decide (p = q) := by
  rw [eqv_dP, Bool.eq_iff_iff]
  simp only [decide_eq_true_eq]
  exact ⟨fun h => Prod.ext h.1 h.2, fun h => by rw [h]; exact ⟨rfl, rfl⟩⟩
theorem alike_dPt (p q : Pt) : PySem.W.alike (dPt p) (dPt q) = true := by
  unfold dPt dP
  simp [PySem.W.alike, PySem.W.alikeAll]
theorem depth_dPt (p : Pt) : (dPt p).depth = 1 := by
  unfold dPt dP
  simp [PyData.depth, PyData.depthAll]
theorem depthAll_pts {γ : Type} (f : γ → Pt) : ∀ l : List γ, PyData.depthAll (l.map fun b => dPt (f b)) ≤ 1
  | [] => Nat.zero_le _
  | b :: r => by
    rw [List.map_cons, PyData.depthAll, depth_dPt]
    have := depthAll_pts f r
    omega
section
variable {K : PySem.W.Frag} {w : World} {σ : L2.St} {H H' : Hp} {ta tb tc te tl : TE} {t : TT} {D : Ends} {tz : TS} {d : Addr} {kas : List Ent}
theorem el_lcG {γ : Type} {zs : List γ} {emb : γ → V} {j : Nat} {vs : List Nat} (f : γ → Bool) (g : γ → V) (h : EvS K tl σ H (zs.map emb)) (hz : zs.length ≤ 40000) (hw : ∀ x, wipe ((wipe σ vs).set j (some x)) vs = wipe σ vs)
    (ht : ∀ (z : γ) H1, Ex H H1 → z ∈ zs → EvT t ((wipe σ vs).set j (some (emb z))) H1 (f z)) (he : ∀ (z : γ) H1, Ex H H1 → z ∈ zs → f z = true → Ev te ((wipe σ vs).set j (some (emb z))) H1 (g z)) :
    EvL (tLc (iList K tl) (gName j) t te vs) σ H ((zs.filter f).map g) := fun H0 e Q q => h H0 e _ fun a H1 e1 ha => ⟨a, rfl, ⟨_, ha⟩, fun Dl hD => by
  refine lc_list (xs := zs.map emb) (fun n => Grow H1 Dl (((zs.take n).filter f).map g)) ⟨hD, Ex.new hD, upd_same⟩ (fun n H' _ p => ex_l p.2.1 ha) (fun n x H' hi p => ?_) (fun H' p => ?_)
  · rw [List.getElem?_map] at hi
    obtain ⟨z, hr, rfl⟩ := Option.map_eq_some_iff.mp hi
    have hm : z ∈ zs := List.mem_of_getElem? hr
    refine ⟨hw _, ?_⟩
    have hlen : (((zs.take n).filter f).map g).length < 100000 := by
      rw [List.length_map]
      have h1 := List.length_filter_le f (zs.take n)
      have h2 : (zs.take n).length ≤ zs.length := by rw [List.length_take]; omega
      omega
    have w := grow_turn p hlen (ht z H1 (e.trans e1) hm) (he z H1 (e.trans e1) hm)
    have e2 : (((zs.take (n + 1)).filter f).map g) = ((zs.take n).filter f).map g ++ if f z = true then [g z] else [] := by
      rw [take_snoc hr, List.filter_append, List.map_append]
      congr 1
      cases hf : f z <;> simp [hf]
    rw [e2]
    exact w
  · rw [List.length_map, List.take_length] at p
    exact q Dl H' (fresh_back e1 p.1) (e1.trans p.2.1) p.2.2⟩
/-- list(d) -/
theorem el_listN (hv : Ev ta σ H (.ref d)) (hd : H d = some (DN w d kas)) : EvL (tCB (rListN w) (tCons ta tNil)) σ H (kas.map fun e => V.ref e.2.1) := fun H1 e Q q =>
  hv H1 e _ fun H2 e2 => ⟨d, kas, rfl, .inl ((e.trans e2) _ _ hd), fun p hp => q p _ (fresh_back e2 hp) (e2.trans (Ex.new hp)) upd_same⟩
/-- sorted(points) -/
theorem el_sortPts {ks : List (Addr × Pt)} (h : EvL ta σ H (ks.map fun e => V.ref e.1)) (hp : ∀ e ∈ ks, PtAt H e.1 e.2) (hl : ks.length ≤ 1000) :
    ∃ l : List (V × Pt), l.Perm (ks.map fun e => (V.ref e.1, e.2)) ∧ EvL (tCB (rSortV dPt K) (tCons ta tNil)) σ H (l.map (·.1)) := by
  refine ⟨(ks.map fun e => (V.ref e.1, e.2)).mergeSort (PySem.W.dataLe false fun b => dPt b.2), List.mergeSort_perm _ _, fun H1 e Q q => h H1 e _ fun p H2 hp2 e2 h2 => ?_⟩
  refine ⟨p, ks.map fun e => (V.ref e.1, e.2), rfl, ?_, fun c hc => ?_, ?_, ?_, fun c hc => ?_, fun s hs => q s _ (fresh_back e2 hs) (e2.trans (Ex.new hs)) upd_same⟩
  · rw [List.map_map]
    exact sq_of h2
  · obtain ⟨b, hm, rfl⟩ := List.mem_map.mp hc
    exact ((hp b hm).mono (.of (e.trans e2))).dp
  · exact PySem.W.AllAlike.of (enc := fun b : V × Pt => dPt b.2) fun b b' => alike_dPt _ _
  · refine .inl fun d hd => ?_
    obtain ⟨b, _, rfl⟩ := List.mem_map.mp hd
    exact ⟨_, _, rfl⟩
  · show (dPt c.2).depth ≤ 40
    rw [depth_dPt]
    omega
/-- min(points) -/
theorem ep_minPts {ks : List (Addr × Pt)} (h : EvL ta σ H (ks.map fun e => V.ref e.1)) (hp : ∀ e ∈ ks, PtAt H e.1 e.2) (hn : ks ≠ []) :
    EvP (tCB (rMinV dPt K) (tCons ta tNil)) σ H (fun _ v _ => ∃ e ∈ ks, v = .ref e.1 ∧ dPt e.2 = PySem.W.minD (dPt (ks.head hn).2) (ks.tail.map fun e => dPt e.2)) := fun H1 e Q q => h H1 e _ fun p H2 hp2 e2 h2 => by
  obtain ⟨k, r, rfl⟩ := List.exists_cons_of_ne_nil hn
  refine ⟨p, (V.ref k.1, k.2), r.map fun e => (V.ref e.1, e.2), rfl, ?_, fun c hc => ?_, ⟨fun x hx y hy => ?_, fun x hx => ?_⟩, ?_, fun b hb he => ?_⟩
  · have : ((V.ref k.1, k.2) :: r.map fun e => (V.ref e.1, e.2)).map (·.1) = (k :: r).map fun e => V.ref e.1 := by
      rw [List.map_cons, List.map_map]
      rfl
    rw [this]
    exact sq_of h2
  · have hc : c ∈ (k :: r).map fun e => (V.ref e.1, e.2) := hc
    obtain ⟨b, hm, rfl⟩ := List.mem_map.mp hc
    exact ((hp b hm).mono (.of (e.trans e2))).dp
  · obtain ⟨b, _, rfl⟩ := List.mem_map.mp hx
    obtain ⟨c, _, rfl⟩ := List.mem_map.mp hy
    exact alike_dPt _ _
  · obtain ⟨b, _, rfl⟩ := List.mem_map.mp hx
    exact fun z => PyData.noConfusion z
  · exact Nat.le_trans (depthAll_pts (fun b : V × Pt => b.2) _) (by decide)
  · have hb : b ∈ (k :: r).map fun e => (V.ref e.1, e.2) := hb
    obtain ⟨c, hm, rfl⟩ := List.mem_map.mp hb
    refine q _ H2 e2 ⟨c, hm, rfl, ?_⟩
    dsimp only at he
    rw [he, List.map_map]
    rfl
/-- a, b, c = e1, e2, e3 by a tuple -/
theorem q_tup3 {i j k : Nat} {x y z : V} (h1 : Ev ta σ H x) (h2 : Ev tb σ H y) (h3 : Ev tc σ H z) (c : ∀ H1, Ex H H1 → tz D (((σ.set i (some x)).set j (some y)).set k (some z)) H1) :
    tSeq (tAsg (tTup (tCons ta (tCons tb (tCons tc tNil)))) (gTup K 3 (gCons (gName i) (gCons (gName j) (gCons (gName k) gNil))))) tz D σ H :=
  h1 H (Ex.refl H) _ fun H1 e1 => h2 H1 e1 _ fun H2 e2 => h3 H2 (e1.trans e2) _ fun H3 e3 => ⟨sz_of (by simp), fun q hq => ⟨q, _, rfl, st_of upd_same, rfl, _, _, rfl, _, _, rfl, _, _, rfl, rfl, c _ (((e1.trans e2).trans e3).trans (Ex.new hq))⟩⟩
theorem s_tup3 {i j k : Nat} {x y z : V} (h1 : Ev ta σ H x) (h2 : Ev tb σ H y) (h3 : Ev tc σ H z) (c : ∀ H1, Ex H H1 → D.nx (((σ.set i (some x)).set j (some y)).set k (some z)) H1) :
    tAsg (tTup (tCons ta (tCons tb (tCons tc tNil)))) (gTup K 3 (gCons (gName i) (gCons (gName j) (gCons (gName k) gNil)))) D σ H :=
  h1 H (Ex.refl H) _ fun H1 e1 => h2 H1 e1 _ fun H2 e2 => h3 H2 (e1.trans e2) _ fun H3 e3 => ⟨sz_of (by simp), fun q hq => ⟨q, _, rfl, st_of upd_same, rfl, _, _, rfl, _, _, rfl, _, _, rfl, rfl, c _ (((e1.trans e2).trans e3).trans (Ex.new hq))⟩⟩
end
theorem at_zero {x : V} {xs : List V} : atI (x :: xs) 0 = some x := atI_nat (xs := x :: xs) (j := 0) rfl
def sp_l_is_ring (K : PySem.W.Frag) : Sp := fun vs H Q _ => ∃ g c h w cs, vs = [.ref g, .ref c] ∧ SqT K H g [.int ((h : Nat) : Int), .int ((w : Nat) : Int)] ∧ GOk h w ∧ SqL K H c ((cs : List Int).map V.int) ∧ COk h w cs ∧ RetV (.bl (isRing h w cs)) H Q
theorem ev_l_is_ring {K : PySem.W.Frag} {σ : L2.St} {H : Hp} {ta tb : TE} {E : XK} {h w : Nat} {cs : List Int} (ha : EvST K ta σ H [.int (h : Int), .int (w : Int)]) (gk : GOk h w) (hc : EvS K tb σ H (cs.map V.int)) (ck : COk h w cs) :
    Ev (tCall (sp_l_is_ring K) [] E (tCons ta (tCons tb tNil))) σ H (.bl (isRing h w cs)) := fun H1 e Q q =>
  ha H1 e _ fun g H2 e2 hg => hc H2 (e.trans e2) _ fun c H3 e3 hc3 => ⟨g, c, h, w, cs, rfl, ex_t e3 hg, gk, hc3, ck, fun H4 e4 => q H4 ((e2.trans e3).trans e4)⟩
def t_l_is_ring (K : PySem.W.Frag) (w : World) : TS := (tSeq (tAsg (tCall (sp_l_sides K) [] E0 (tCons (tVar 0) (tCons (tVar 1) tNil))) (gName 2))
      (tSeq (tAsg (tCall (sp_l_points K w) [] E0 (tCons (tVar 2) tNil)) (gName 3))
      (tSeq (tIfS (tB (tCB (rAny K) (tCons (tLc (iList K (tCB (rSortV dPt K) (tCons (tCB (rListN w) (tCons (tVar 3) tNil)) tNil))) (gName 9) tYes (tOp rNe (tCB (rLenS K) (tCons (tGetN w (tVar 3) (tVar 9)) tNil)) (tC (.int 2))) [9]) tNil))) (tRet (tC (.bl false))) tNext)
      (tSeq (tAsg (tCB (rMinV dPt K) (tCons (tCB (rListN w) (tCons (tVar 3) tNil)) tNil)) (gName 4))
      (tSeq (tAsg (tTup (tCons (tVar 4) (tCons (tOp (rIxL K) (tGetN w (tVar 3) (tVar 4)) (tC (.int 0))) (tCons (tC (.int 1)) tNil)))) (gTup K 3 (gCons (gName 5) (gCons (gName 6) (gCons (gName 7) gNil)))))
      (tSeq (tWhile (tTest (tOp (rNeD K) (tVar 6) (tVar 4))) (tSeq (tAsg (tLc (iList K (tGetN w (tVar 3) (tVar 6))) (gName 9) (tTest (tOp (rNeD K) (tVar 9) (tVar 5))) (tVar 9) [9]) (gName 8))
      (tAsg (tTup (tCons (tVar 6) (tCons (tOp (rIxL K) (tVar 8) (tC (.int 0))) (tCons (tOp oAdd (tVar 7) (tC (.int 1))) tNil)))) (gTup K 3 (gCons (gName 5) (gCons (gName 6) (gCons (gName 7) gNil)))))))
      (tRet (tOp rEq (tVar 7) (tCB (rLenS K) (tCons (tVar 2) tNil))))))))))
/-- the dict of neighbours as it stands -/
def NearAt (w : World) (us : List Sd2) (H : Hp) (d : Addr) (ks : List PtE) : Prop := H d = some (DN w d (ks.map entP)) ∧ (∀ e ∈ ks, PtAt H e.2.1 e.1 ∧ H e.2.2.1 = some (.lst (e.2.2.2.map V.ref)) ∧ Paired (PtAt H) e.2.2.2 (nbrs us e.1)) ∧ (ks.map (·.1)).Nodup ∧ ∀ p, p ∈ ks.map (·.1) ↔ nbrs us p ≠ []
theorem NearAt.mono {w : World} {us : List Sd2} {H H' : Hp} {d : Addr} {ks : List PtE} (e : Ex H H') (h : NearAt w us H d ks) : NearAt w us H' d ks := by
  obtain ⟨h1, h2, h3⟩ := h
  exact ⟨e _ _ h1, fun x hx => ⟨(h2 x hx).1.mono (.of e), e _ _ (h2 x hx).2.1, pts_mono (.of e) (h2 x hx).2.2⟩, h3⟩
theorem paired_zip {α β : Type} {F : α → β → Prop} : ∀ {l : List α} {m : List β}, Paired F l m → ∃ zs : List (α × β), l = zs.map (·.1) ∧ m = zs.map (·.2) ∧ ∀ z ∈ zs, F z.1 z.2
  | _, _, .nil => ⟨[], rfl, rfl, fun z hz => nomatch hz⟩
  | a :: _, b :: _, .cons h hs => by
    obtain ⟨zs, h1, h2, h3⟩ := paired_zip hs
    refine ⟨(a, b) :: zs, by rw [h1]; rfl, by rw [h2]; rfl, fun z hz => ?_⟩
    rcases List.mem_cons.mp hz with rfl | hz
    · exact h
    · exact h3 z hz
/-- near[p]: its neighbours -/
theorem near_get {w : World} {us : List Sd2} {σ : L2.St} {H : Hp} {d a : Addr} {ks : List PtE} {p : Pt} {td ty : TE} (na : NearAt w us H d ks) (hd : Ev td σ H (.ref d)) (hy : Ev ty σ H (.ref a)) (hp : PtAt H a p) (hn : nbrs us p ≠ []) :
    ∃ l, ∃ zs : List (Addr × Pt), Ev (tGetN w td ty) σ H (.ref l) ∧ H l = some (.lst (zs.map fun z => V.ref z.1)) ∧ nbrs us p = zs.map (·.2) ∧ ∀ z ∈ zs, PtAt H z.1 z.2 := by
  obtain ⟨h1, h2, h3, h4⟩ := na
  obtain ⟨e, he, rfl⟩ := List.mem_map.mp ((h4 p).mpr hn)
  obtain ⟨k1, k2, k3⟩ := h2 e he
  obtain ⟨zs, z1, z2, z3⟩ := paired_zip k3
  refine ⟨e.2.2.1, zs, ev_getN hd hy (.inl h1) (keys_P fun x hx => (h2 x hx).1) hp.nk (kPt_dp _) (valP_some h3 he), ?_, z2, z3⟩
  rw [k2, z1, List.map_map]
  rfl
theorem pure_l_is_ring {K : PySem.W.Frag} {w : World} {vs : List V} {H : Hp} {Q : VK} {E : XK} {D : Ends} (hD : D.rt = Q) {N : List Str} (hN : N.length = 10) (h : sp_l_is_ring K vs H Q E) : t_l_is_ring K w D (start N vs) H := by
  obtain ⟨g, c, h, wd, cs, rfl, hs, gk, hc, ck, q⟩ := h
  subst hD
  rw [start_eq hN]
  change t_l_is_ring K w D [some (.ref g), some (.ref c), none, none, none, none, none, none, none, none] H
  have riff := isRing_iff gk ck
  have wit := sc_within h wd cs
  have fr := first_rim gk ck
  -- the sides
  refine q_asgP (i := 2) (ep_l_sides (K := K) (ea_cons (ev_var rfl) (ea_cons (ev_var rfl) ea_nil)) hs gk hc ck) fun v H1 e1 hv => ?_
  obtain ⟨sp, as, us, rfl, _, s1, s2, ir, ul⟩ := hv
  generalize Sc h wd cs = S at *
  generalize isRing h wd cs = rb at *
  -- near
  refine q_asgP (i := 3) (ep_l_points (K := K) (w := w) (us := us) (ea_cons (ev_var rfl) ea_nil) s1 s2 ul) fun v H2 e2 hv => ?_
  obtain ⟨d, ks, rfl, _, na⟩ := hv
  have na : NearAt w us H2 d ks := na
  have s1' := e2 _ _ s1
  have kpts : ∀ e ∈ ks, PtAt H2 e.2.1 e.1 := fun e he => (na.2.1 e he).1
  have kl : ks.length ≤ 1000 := by
    have := nodup_len (m := (dirs us).map (·.1)) na.2.2.1 fun o ho => by
      obtain ⟨z, hz⟩ := List.exists_mem_of_ne_nil _ ((na.2.2.2 o).mp ho)
      rw [← nbrs_dirs] at hz
      unfold nbD at hz
      obtain ⟨e, he, _⟩ := List.mem_map.mp hz
      obtain ⟨e1, e2⟩ := List.mem_filter.mp he
      exact List.mem_map.mpr ⟨e, e1, of_decide_eq_true e2⟩
    rw [List.length_map, List.length_map, dirs_len] at this
    omega
  let ps : List (Addr × Pt) := ks.map fun e => (e.2.1, e.1)
  have psl : ps.length ≤ 1000 := by show (ks.map _).length ≤ 1000; rw [List.length_map]; exact kl
  have psp : ∀ e ∈ ps, PtAt H2 e.1 e.2 := fun e he => by
    obtain ⟨x, hx, rfl⟩ := List.mem_map.mp he
    exact kpts x hx
  have psm : ∀ e ∈ ps, nbrs us e.2 ≠ [] := fun e he => by
    obtain ⟨x, hx, rfl⟩ := List.mem_map.mp he
    exact (na.2.2.2 x.1).mp (List.mem_map.mpr ⟨x, hx, rfl⟩)
  have lst : EvL (tCB (rListN w) (tCons (tVar 3) tNil)) [some (.ref g), some (.ref c), some (.ref sp), some (.ref d), none, none, none, none, none, none] H2 (ps.map fun e => V.ref e.1) := by
    have := el_listN (w := w) (σ := [some (.ref g), some (.ref c), some (.ref sp), some (.ref d), none, none, none, none, none, none]) (ta := tVar 3) (ev_var rfl) na.1
    rw [show (ks.map entP).map (fun e => V.ref e.2.1) = ps.map fun e => V.ref e.1 by rw [List.map_map, List.map_map]; rfl] at this
    exact this
  -- any
  obtain ⟨l, lp, lev⟩ := el_sortPts (K := K) lst psp psl
  have lm : ∀ z ∈ l, ∃ e ∈ ps, z = (V.ref e.1, e.2) := fun z hz => by
    obtain ⟨e, he, rfl⟩ := List.mem_map.mp (lp.mem_iff.mp hz)
    exact ⟨e, he, rfl⟩
  have ll : l.length ≤ 1000 := by rw [lp.length_eq, List.length_map]; exact psl
  have anyE := el_lcG (K := K) (zs := l) (emb := fun z => z.1) (j := 9) (vs := [9]) (t := tYes) (te := tOp rNe (tCB (rLenS K) (tCons (tGetN w (tVar 3) (tVar 9)) tNil)) (tC (.int 2))) (fun _ => true) (fun z => V.bl (!decide ((nbrs us z.2).length = 2))) (es_new lev) (by omega) (fun _ => rfl) (fun _ _ _ _ => et_yes) (fun z H3 e3 hz _ => by
    obtain ⟨e, he, rfl⟩ := lm z hz
    obtain ⟨al, zs, g1, g2, g3, g4⟩ := near_get (σ := [some (.ref g), some (.ref c), some (.ref sp), some (.ref d), none, none, none, none, none, some (.ref e.1)]) (td := tVar 3) (ty := tVar 9) (na.mono e3) (ev_var rfl) (ev_var rfl) ((psp e he).mono (.of e3)) (psm e he)
    refine ev_is (ev_op (x := .int (zs.length : Int)) (y := .int 2) (ev_is (ev_lenS (K := K) (es_of g1 (sq_of g2))) (by rw [List.length_map])) ev_c (rv_ne rfl)) ?_
    rw [g3, List.length_map]
    congr 1
    rw [Bool.eq_iff_iff]
    simp
    omega)
  have anyV := ev_anyS (K := K) (bs := (l.filter fun _ => true).map fun z => !decide ((nbrs us z.2).length = 2)) (es_new (by rw [List.map_map]; exact anyE))
  rw [show (l.filter fun _ => true) = l from List.filter_eq_self.mpr fun _ _ => rfl] at anyV
  generalize hb : ((l.map fun z => !decide ((nbrs us z.2).length = 2)).any id) = b at anyV
  have lenI : b = false ↔ ∀ p, nbrs us p ≠ [] → (nbrs us p).length = 2 := by
    rw [← hb]
    constructor
    · intro hf p hp
      obtain ⟨e, he, rfl⟩ := List.mem_map.mp ((na.2.2.2 p).mpr hp)
      have hm : (V.ref e.2.1, e.1) ∈ l := lp.mem_iff.mpr (List.mem_map.mpr ⟨(e.2.1, e.1), List.mem_map.mpr ⟨e, he, rfl⟩, rfl⟩)
      have := List.any_eq_false.mp hf _ (List.mem_map.mpr ⟨_, hm, rfl⟩)
      simpa using this
    · intro hall
      refine List.any_eq_false.mpr fun x hx => ?_
      obtain ⟨z, hz, rfl⟩ := List.mem_map.mp hx
      obtain ⟨e, he, rfl⟩ := lm z hz
      simpa using hall _ (psm e he)
  rw [← deg_len ir] at lenI
  refine q_when (et_B anyV) (fun hbt H3 e3 => ?_) (fun hbf H3 e3 => ?_)
  · refine s_ret ev_c fun H4 e4 => ?_
    have : rb = false := by
      cases z : rb with
      | false => rfl
      | true =>
        rw [hbt] at lenI
        exact absurd (lenI.mpr (riff.mp z).1) (by decide)
    rw [← this]
    exact q H4 ((((e1.trans e2).trans e3)).trans e4)
  have nd := lenI.mp hbf
  have na3 := na.mono e3
  have psn : ps ≠ [] := fun z => by
    have hk : nbrs us (tail (cellOf wd (cs.headD 0), 0)) ≠ [] := List.ne_nil_of_mem ((mem_nb ir).mpr ⟨_, fr, .inl ⟨rfl, rfl⟩⟩)
    obtain ⟨e, he, _⟩ := List.mem_map.mp ((na.2.2.2 _).mpr hk)
    have hm : (e.2.1, e.1) ∈ ps := List.mem_map.mpr ⟨e, he, rfl⟩
    rw [z] at hm
    cases hm
  refine q_asgP (i := 4) (ep_minPts (K := K) (lst.mono e3) (fun e he => (psp e he).mono (.of e3)) psn) fun v H4 e4 hv => ?_
  obtain ⟨fst, hf, rfl, _⟩ := hv
  have na4 := na3.mono e4
  have hf4 : PtAt H4 fst.1 fst.2 := (psp fst hf).mono (.of (e3.trans e4))
  have hfn := psm fst hf
  obtain ⟨fl, fz, f1, f2, f3, f4⟩ := near_get (σ := [some (.ref g), some (.ref c), some (.ref sp), some (.ref d), some (.ref fst.1), none, none, none, none, none]) (td := tVar 3) (ty := tVar 4) na4 (ev_var rfl) (ev_var rfl) hf4 hfn
  cases fz with
  | nil => exact absurd f3 hfn
  | cons z0 zr =>
  obtain ⟨n, rd, nle, niff⟩ := round_ok wit ir nd (first := fst.2) (q := z0.2) (r := zr.map (fun x : Addr × Pt => x.2)) f3
  refine q_tup3 (K := K) (i := 5) (j := 6) (k := 7) (x := .ref fst.1) (y := .ref z0.1) (z := .int 1) (ev_var rfl) (ev_ixS (K := K) (i := 0) (es_of f1 (sq_of f2)) ev_c at_zero) ev_c fun H5 e5 => ?_
  -- round
  refine q_while (fun m σ' H' => ∃ a b y8 y9, ∃ pa pb : Pt, ∃ k : Nat, σ' = [some (.ref g), some (.ref c), some (.ref sp), some (.ref d), some (.ref fst.1), some (.ref a), some (.ref b), some (.int (k : Int)), y8, y9] ∧ Ex H5 H' ∧ PtAt H' a pa ∧ PtAt H' b pb ∧ roundGo us fst.2 m pa pb k = some n) (us.length + 1)
    ⟨fst.1, z0.1, none, none, fst.2, z0.2, 1, rfl, Ex.refl H5, hf4.mono (.of e5), (f4 z0 List.mem_cons_self).mono (.of e5), rd⟩ (fun m σ' H' hW => ?_)
  obtain ⟨a, b, y8, y9, pa, pb, k, rfl, e6, ha, hbp, hr⟩ := hW
  have hf6 := hf4.mono (.of (e5.trans e6))
  refine ⟨!decide (pb = fst.2), et_is (et_test (ev_neD (K := K) (ed_of (ev_var rfl) hbp.dp) (ed_of (ev_var rfl) hf6.dp) (shaped_dP _ _) (shaped_dP _ _))) (by rw [eqv_dPt]), fun hbt H7 e7 => ?_, fun hbf H7 e7 => ?_⟩
  · cases m with
    | zero => cases hr
    | succ m =>
    have hne : pb ≠ fst.2 := by simpa using hbt
    unfold roundGo at hr
    rw [if_neg hne] at hr
    have hnb : nbrs us pb ≠ [] := fun z => by rw [z] at hr; cases hr
    have na7 := na4.mono ((e5.trans e6).trans e7)
    have ha7 := ha.mono (.of e7)
    obtain ⟨al, zs, g1, g2, g3, g4⟩ := near_get (σ := [some (.ref g), some (.ref c), some (.ref sp), some (.ref d), some (.ref fst.1), some (.ref a), some (.ref b), some (.int (k : Int)), y8, y9]) (td := tVar 3) (ty := tVar 6) na7 (ev_var rfl) (ev_var rfl) (hbp.mono (.of e7)) hnb
    rw [g3] at hr
    have zl : zs.length ≤ 40000 := by
      have := nbD_len (dirs us) pb
      rw [nbrs_dirs, g3, List.length_map, dirs_len] at this
      omega
    have rest := el_lcG (K := K) (σ := [some (.ref g), some (.ref c), some (.ref sp), some (.ref d), some (.ref fst.1), some (.ref a), some (.ref b), some (.int (k : Int)), y8, y9]) (H := H7) (tl := tGetN w (tVar 3) (tVar 6)) (zs := zs) (emb := fun z => V.ref z.1) (j := 9) (vs := [9]) (t := tTest (tOp (rNeD K) (tVar 9) (tVar 5))) (te := tVar 9) (fun z => !decide (z.2 = pa)) (fun z => V.ref z.1) (es_of g1 (sq_of g2)) zl (fun _ => rfl)
      (fun z H8 e8 hz => et_is (et_test (ev_neD (K := K) (ed_of (ev_var rfl) ((g4 z hz).mono (.of e8)).dp) (ed_of (ev_var rfl) (ha7.mono (.of e8)).dp) (shaped_dP _ _) (shaped_dP _ _))) (by rw [eqv_dPt])) (fun _ _ _ _ _ => ev_var rfl)
    refine ⟨fun σ2 H8 => ∃ a b y8 y9, ∃ pa pb : Pt, ∃ k : Nat, σ2 = [some (.ref g), some (.ref c), some (.ref sp), some (.ref d), some (.ref fst.1), some (.ref a), some (.ref b), some (.int (k : Int)), y8, y9] ∧ Ex H5 H8 ∧ PtAt H8 a pa ∧ PtAt H8 b pb ∧ roundGo us fst.2 m pa pb k = some n, fun σ2 H8 z => ⟨m, Nat.lt_succ_self m, z⟩, ?_⟩
    refine q_asgL (i := 8) rest fun rp H8 hrp e8 h8 => ?_
    have fm : (zs.map (·.2)).filter (fun q => !decide (q = pa)) = (zs.filter fun z => !decide (z.2 = pa)).map (·.2) := by
      rw [List.filter_map]
      rfl
    rw [fm] at hr
    have fsub : ∀ z ∈ zs.filter fun z => !decide (z.2 = pa), PtAt H7 z.1 z.2 := fun z hz => g4 z (List.mem_filter.mp hz).1
    generalize (zs.filter fun z => !decide (z.2 = pa)) = fz at hr h8 fsub
    cases fz with
    | nil => cases hr
    | cons y yr =>
    have hr : roundGo us fst.2 m pb y.2 (k + 1) = some n := hr
    refine s_tup3 (K := K) (i := 5) (j := 6) (k := 7) (x := .ref b) (y := .ref y.1) (z := .int ((k + 1 : Nat) : Int)) (ev_var rfl) (ev_ixS (K := K) (i := 0) (es_of (ev_var rfl) (sq_of h8)) ev_c at_zero) (ev_op (x := .int (k : Int)) (y := .int 1) (ev_var rfl) ev_c rv_I0) fun H9 e9 => ?_
    exact ⟨b, y.1, _, _, pb, y.2, k + 1, rfl, ((e6.trans e7).trans e8).trans e9, hbp.mono (.of ((e7.trans e8).trans e9)), (fsub y List.mem_cons_self).mono (.of (e8.trans e9)), hr⟩
  · have heq : pb = fst.2 := by simpa using hbf
    have hk : k = n := by
      cases m with
      | zero => cases hr
      | succ m =>
        unfold roundGo at hr
        rw [if_pos heq] at hr
        exact Option.some.inj hr
    subst hk
    have s7 : SqL K H7 sp (as.map V.ref) := sq_of (((((e3.trans e4).trans e5).trans e6).trans e7) _ _ s1')
    refine s_ret (ev_op (x := .int (k : Int)) (y := .int (us.length : Int)) (ev_var rfl) (ev_is (ev_lenS (K := K) (es_of (ev_var rfl) s7)) (by rw [List.length_map, Paired.length s2])) (rv_eq rfl)) fun H8 e8 => ?_
    have : (decide (V.int (k : Int) = V.int (us.length : Int))) = rb := by
      rw [Bool.eq_iff_iff, riff, ← niff]
      simp only [decide_eq_true_eq, V.int.injEq]
      exact ⟨fun z => ⟨nd, by omega⟩, fun z => by have := z.2; omega⟩
    have e := q H8 (((((((e1.trans e2).trans e3).trans e4).trans e5).trans e6).trans e7).trans e8)
    rw [← this] at e
    exact e

/-! ### loops over data, objects just made, lists changed behind them -/
section
variable {K : PySem.W.Frag} {C : Ad} {σ : L2.St} {H H' : Hp} {ta tb tc te tl : TE} {tr : TA} {D : Ends} {tu tz : TS} {t : TT} {ds : List PyData}
/-- for x in data -/
theorem s_forD {j : Nat} (h : EvD K te σ H (.list ds)) (Pv : Addr → List V → Nat → L2.St → Hp → Prop) (h0 : ∀ T vs H1, Ex H H1 → SqL K H1 T vs → DpAll K H1 vs ds → Pv T vs 0 σ H1)
    (hq : ∀ T vs n σ' H', Pv T vs n σ' H' → SqL K H' T vs) (hs : ∀ T vs n x σ' H', vs[n]? = some x → Pv T vs n σ' H' → tu { D with nx := Pv T vs (n + 1), ct := Pv T vs (n + 1), bk := D.nx } (σ'.set j (some x)) H') (hd : ∀ T vs σ' H', Pv T vs vs.length σ' H' → D.nx σ' H') :
    tFor (iList K te) (gName j) tu D σ H :=
  h H (Ex.refl H) _ fun v H1 e hv => by
    cases hv with
    | lst hs' ha => exact ⟨_, rfl, ⟨_, hs'⟩, for_list (Pv _ _) (h0 _ _ _ e hs' ha) (fun n σ' H' _ p => hq _ _ n σ' H' p) (hs _ _) (hd _ _)⟩
theorem q_forD {j : Nat} (h : EvD K te σ H (.list ds)) (Pv : Addr → List V → Nat → L2.St → Hp → Prop) (h0 : ∀ T vs H1, Ex H H1 → SqL K H1 T vs → DpAll K H1 vs ds → Pv T vs 0 σ H1)
    (hq : ∀ T vs n σ' H', Pv T vs n σ' H' → SqL K H' T vs) (hs : ∀ T vs n x σ' H', vs[n]? = some x → Pv T vs n σ' H' → tu { D with nx := Pv T vs (n + 1), ct := Pv T vs (n + 1), bk := tz D } (σ'.set j (some x)) H') (hd : ∀ T vs σ' H', Pv T vs vs.length σ' H' → tz D σ' H') :
    tSeq (tFor (iList K te) (gName j) tu) tz D σ H := s_forD (D := { D with nx := tz D }) h Pv h0 hq hs hd
/-- [x for x in rows if t], rows to be read -/
theorem ep_filtRows {j : Nat} {vs : List Nat} {a : Addr} {nss : List (List Int)} (f : List Int → Bool) (h : Ev tl σ H (.ref a)) (hr : RowsAt K H a nss) (hz : nss.length ≤ 40000) (hw : ∀ x, wipe ((wipe σ vs).set j (some x)) vs = wipe σ vs) (hj : ∀ x : V, ((wipe σ vs).set j (some x))[j]? = some (some x))
    (ht : ∀ (ns : List Int) q H1, Ex H H1 → ns ∈ nss → SqL K H1 q (ns.map V.int) → EvT t ((wipe σ vs).set j (some (.ref q))) H1 (f ns)) :
    EvP (tLc (iList K tl) (gName j) t (tVar j) vs) σ H (fun H1 v H2 => ∃ p, v = .ref p ∧ H1 p = none ∧ RowsAt K H2 p (nss.filter f)) := by
  obtain ⟨rs, r1, r2⟩ := hr
  obtain ⟨zs, z1, z2, z3⟩ := paired_zip r2
  have zl : zs.length ≤ 40000 := by
    have := congrArg List.length z2
    rw [List.length_map] at this
    omega
  have l := el_lcG (K := K) (σ := σ) (H := H) (tl := tl) (zs := zs) (emb := fun z : Addr × List Int => V.ref z.1) (j := j) (vs := vs) (t := t) (te := tVar j) (fun z => f z.2) (fun z => V.ref z.1) (es_of h (by rw [z1, List.map_map] at r1; exact r1)) zl hw (fun z H1 e1 hz => ht z.2 z.1 H1 e1 (by rw [z2]; exact List.mem_map.mpr ⟨z, hz, rfl⟩) (ex_l e1 (z3 z hz))) (fun z H1 e1 hz _ => ev_var (hj _))
  refine fun H1 e1 Q q => l H1 e1 _ fun p H2 hp e2 h2 => q _ H2 e2 ⟨p, rfl, hp, (zs.filter fun z => f z.2).map (·.1), ?_, ?_⟩
  · rw [List.map_map]
    exact sq_of h2
  · have hE : nss.filter f = (zs.filter fun z => f z.2).map (·.2) := by
      rw [z2, List.filter_map]
      rfl
    rw [hE]
    have key : ∀ l : List (Addr × List Int), (∀ z ∈ l, SqL K H2 z.1 (z.2.map V.int)) → Paired (fun (r : Addr) (ns : List Int) => SqL K H2 r (ns.map V.int)) (l.map (·.1)) (l.map (·.2)) := fun l => by
      induction l with
      | nil => intro _; exact .nil
      | cons e r ih => intro hh; exact .cons (hh e List.mem_cons_self) (ih fun x hx => hh x (List.mem_cons_of_mem _ hx))
    exact key _ fun z hz => ex_l (e1.trans e2) (z3 z (List.mem_filter.mp hz).1)
theorem q_parPP {i j : Nat} {R S : Hp → V → Hp → Prop} (h : EvP ta σ H R) (h' : EvP tb σ H S) (k : ∀ v u H1 H2, Ex H H1 → R H v H1 → Ex H1 H2 → S H1 u H2 → tz D ((σ.set i (some v)).set j (some u)) H2) : tSeq (tPar i j (tCons ta (tCons tb tNil))) tz D σ H :=
  h H (Ex.refl H) _ fun v H1 e z => h' H1 e _ fun u H2 e2 z2 => ⟨v, u, rfl, k v u H1 H2 e z e2 z2⟩
theorem RowsAt.get {a : Addr} {nss : List (List Int)} (h : RowsAt K H a nss) {j : Nat} (hj : j < nss.length) : ∃ rs : List Addr, ∃ r, SqL K H a (rs.map V.ref) ∧ rs[j]? = some r ∧ SqL K H r (nss[j].map V.int) ∧ rs.length = nss.length := by
  obtain ⟨rs, h1, h2⟩ := h
  have hl := Paired.length h2
  obtain ⟨b, hb, hf⟩ := paired_get h2 (List.getElem?_eq_getElem (l := rs) (by omega : j < rs.length))
  have : b = nss[j] := Option.some.inj (hb.symm.trans (List.getElem?_eq_getElem hj))
  subst this
  exact ⟨rs, _, h1, List.getElem?_eq_getElem _, hf, hl⟩
/-- shows, asked of an answer just made -/
theorem ev_showsGP {R : Hp → V → Hp → Prop} {t : Ans} {h w : Nat} {cs : List Int} (ha : EvP ta σ H R) (hR : ∀ {H1 v H2}, R H1 v H2 → AnsAt C H2 v t) (hb : EvST K tb σ H [.int (h : Int), .int (w : Int)]) (gk : GOk h w) (hc : EvS K tc σ H (cs.map V.int)) (hn : cs ≠ []) (hl : cs.length ≤ 1000) :
    Ev (tAlt (tMeth C.cRing "shows" (sp_Ring_shows K) [] E0 ta (tCons tb (tCons tc tNil))) (tAlt (tMeth C.cSplit "shows" (sp_Split_shows K C) [] E0 ta (tCons tb (tCons tc tNil))) (tMeth C.cHole "shows" (sp_Hole_shows K C) [] E0 ta (tCons tb (tCons tc tNil))))) σ H (.bl (showsG h w cs t)) := fun H1 e Q q => by
  cases t with
  | ring =>
    refine .inl (ha H1 e _ fun v H2 e2 hv => ?_)
    obtain ⟨p, dx, rfl, h1⟩ := hR hv
    exact ⟨p, dx, _, rfl, h1, rfl, hb H2 (e.trans e2) _ fun g H3 e3 hg => hc H3 ((e.trans e2).trans e3) _ fun c H4 e4 hc4 => ⟨p, g, c, h, w, cs, rfl, ex_t e4 hg, gk, hc4, hn, hl, fun H5 e5 => q H5 (((e2.trans e3).trans e4).trans e5)⟩⟩
  | split x y =>
    refine .inr (.inl (ha H1 e _ fun v H2 e2 hv => ?_))
    obtain ⟨p, dx, rfl, h1⟩ := hR hv
    exact ⟨p, dx, _, rfl, h1, flds2_shows, hb H2 (e.trans e2) _ fun g H3 e3 hg => hc H3 ((e.trans e2).trans e3) _ fun c H4 e4 hc4 => ⟨p, g, c, h, w, cs, dx, x, y, rfl, e4 _ _ (e3 _ _ h1), ex_t e4 hg, gk, hc4, hl, fun H5 e5 => q H5 (((e2.trans e3).trans e4).trans e5)⟩⟩
  | hole x =>
    refine .inr (.inr (ha H1 e _ fun v H2 e2 hv => ?_))
    obtain ⟨p, dx, rfl, h1⟩ := hR hv
    exact ⟨p, dx, _, rfl, h1, flds1_shows, hb H2 (e.trans e2) _ fun g H3 e3 hg => hc H3 ((e.trans e2).trans e3) _ fun c H4 e4 hc4 => ⟨p, g, c, h, w, cs, dx, x, rfl, e4 _ _ (e3 _ _ h1), ex_t e4 hg, gk, hc4, fun H5 e5 => q H5 (((e2.trans e3).trans e4).trans e5)⟩⟩
theorem ev_showsNP {nss : List (List Int)} {a : Addr} (hb : Ev tb σ H (.ref a)) (hr : RowsAt K H a nss) (ck : CluesR nss) :
    Ev (tAlt (tMeth C.cOne "shows" (sp_One_shows K C) [] E0 (tBare C.cNever) (tCons tb tNil)) (tAlt (tMeth C.cTwo "shows" (sp_Two_shows K C) [] E0 (tBare C.cNever) (tCons tb tNil)) (tMeth C.cNever "shows" (sp_Never_shows K) [] E0 (tBare C.cNever) (tCons tb tNil)))) σ H (.bl (showsC nss .never)) := fun H1 e Q q => by
  refine .inr (.inr (ep_bare (σ := σ) (H := H) H1 e _ fun v H2 e2 hv => ?_))
  obtain ⟨p, dx, rfl, _, h1⟩ := hv
  exact ⟨p, dx, _, rfl, h1, rfl, hb H2 (e.trans e2) _ fun H3 e3 => ⟨p, a, nss, rfl, hr.mono ((e.trans e2).trans e3), ck, fun H4 e4 => q H4 ((e2.trans e3).trans e4)⟩⟩
theorem NewTold.upd {t : Tld} {H5 H6 H7 : Hp} {u : V} {s : Addr} {o o' : HO} (h : NewTold C t H5 u H6) (e : Ex H6 H7) (hs : H5 s = some o') : NewTold C t H5 u (upd H7 s o) := by
  have ne : ∀ {x : Addr}, H5 x = none → x ≠ s := fun hx hh => by subst hh; rw [hs] at hx; cases hx
  cases t with
  | never =>
    obtain ⟨p, dx, rfl, h1, h2⟩ := h
    exact ⟨p, dx, rfl, h1, by rw [upd_ne (ne h1)]; exact e _ _ h2⟩
  | one a =>
    obtain ⟨p, dx, l, rfl, h1, h2, h3, h4⟩ := h
    exact ⟨p, dx, l, rfl, h1, h2, by rw [upd_ne (ne h1)]; exact e _ _ h3, by rw [upd_ne (ne h2)]; exact e _ _ h4⟩
  | two a b =>
    obtain ⟨p, dx, l, m, rfl, h1, h2, h3, h4, h5, h6, h7⟩ := h
    exact ⟨p, dx, l, m, rfl, h1, h2, h3, h4, by rw [upd_ne (ne h1)]; exact e _ _ h5, by rw [upd_ne (ne h2)]; exact e _ _ h6, by rw [upd_ne (ne h3)]; exact e _ _ h7⟩
theorem NewTold.on {t : Tld} {H5 H6 H7 : Hp} {u : V} (h : NewTold C t H5 u H6) (e : Ex H6 H7) : NewTold C t H5 u H7 := by
  cases t with
  | never =>
    obtain ⟨p, dx, rfl, h1, h2⟩ := h
    exact ⟨p, dx, rfl, h1, e _ _ h2⟩
  | one a =>
    obtain ⟨p, dx, l, rfl, h1, h2, h3, h4⟩ := h
    exact ⟨p, dx, l, rfl, h1, h2, e _ _ h3, e _ _ h4⟩
  | two a b =>
    obtain ⟨p, dx, l, m, rfl, h1, h2, h3, h4, h5, h6, h7⟩ := h
    exact ⟨p, dx, l, m, rfl, h1, h2, h3, h4, e _ _ h5, e _ _ h6, e _ _ h7⟩
end
theorem ev_fldP {K : PySem.W.Frag} {σ : L2.St} {H : Hp} {ta : TE} {c : Addr} {fs : List (Str × V)} {ns : List Str} {f : Str} {v : V} (ha : EvP ta σ H (NewI c fs)) (k : Cf K c ns) (hf : f ∈ ns) (hl : fs.lookup f = some v) : Ev (tFld K ta f) σ H v := fun H1 e1 Q q => ha H1 e1 _ fun u H2 e2 hv => by
  obtain ⟨p, dx, rfl, _, h2⟩ := hv
  exact (ev_fld (K := K) (σ := σ) (ta := tC (.ref p)) ev_c h2 k hf hl) H2 (Ex.refl H2) Q fun H3 e3 => q H3 (e2.trans e3)

/-! ### k10: what the three lambdas tell; _law_cells_right -/
open LamX NdefX
section
variable {K : PySem.W.Frag} {C : Ad} {H1 H2 : Hp} {v : V}
theorem newLL_dat {nss : List (List Int)} (h : NewLL H1 v H2 (ints2 nss)) (hn : ∀ ns ∈ nss, ns ≠ []) (hl : nss.length ≤ 1000) : NewDat K (nss.map dI) H1 v H2 := by
  obtain ⟨p, ps, rfl, hp, h2, hr⟩ := h
  have pl := Paired.length hr
  unfold ints2 at pl
  rw [List.length_map] at pl
  refine ⟨p, _, rfl, hp, h2, by rw [List.length_map, pl]; exact hl, dpAll_rows hr, fun m xs hm => ?_⟩
  have key : ∀ {qs : List Addr} {mss : List (List Int)}, (∀ ns ∈ mss, ns ≠ []) → Paired (fun (q : Addr) xs => H1 q = none ∧ H2 q = some (.lst xs)) qs (ints2 mss) → DpAll K (del (del H2 p) m) (qs.map V.ref) (mss.map dI) := by
    intro qs mss hne hq
    induction mss generalizing qs with
    | nil => cases hq; exact .nil
    | cons ns r ih =>
      cases hq with
      | cons h hs =>
        rename_i q qs
        have n1 : ns ≠ [] := hne ns List.mem_cons_self
        have qm : q ≠ m := fun z => by rw [z, hm] at h; cases h.1
        have qp : q ≠ p := fun z => by
          have e := h.2
          rw [z, h2] at e
          have e2 : ps.map V.ref = ns.map V.int := by injection (Option.some.inj e)
          cases ns with
          | nil => exact n1 rfl
          | cons a b => cases ps with
            | nil => cases e2
            | cons c d => rw [List.map_cons, List.map_cons] at e2; exact V.noConfusion (List.cons.inj e2).1
        exact .cons (dp_ints (sq_of (by rw [del_ne qm, del_ne qp]; exact h.2))) (ih (fun x hx => hne x (List.mem_cons_of_mem _ hx)) hs)
  exact key hn hr
theorem newPts_dat {pts : List (Int × Int)} (e : Ex H1 H2) (h : NewPts K pts H1 v H2) (hl : pts.length ≤ 1000) : NewDat K (pts.map fun p => dP p.1 p.2) H1 v H2 := by
  obtain ⟨p, qs, rfl, hp, h2, hr⟩ := h
  refine ⟨p, _, rfl, hp, h2, by rw [List.length_map, Paired.length hr]; exact hl, dpAll_prs hr, fun m xs hm => ?_⟩
  have hm2 := e _ _ hm
  have st : ∀ {q : Addr} {us : List V}, SqT K H2 q us → SqT K (del (del H2 p) m) q us := fun {q us} hq => by
    rcases hq with (h | ⟨o, h⟩) | h
    · have qm : q ≠ m := fun z => by rw [z, hm2] at h; cases h
      have qp : q ≠ p := fun z => by rw [z, h2] at h; cases h
      exact .inl (.inl (by rw [del_ne qm, del_ne qp]; exact h))
    · have qm : q ≠ m := fun z => by rw [z, hm2] at h; cases h
      have qp : q ≠ p := fun z => by rw [z, h2] at h; cases h
      exact .inl (.inr ⟨o, by rw [del_ne qm, del_ne qp]; exact h⟩)
    · exact .inr h
  exact dpAll_prs (Paired.mapP hr fun q pr z => st z)
end
theorem lay_rowsD (nss : List (List Int)) : layD (nss.map dI) = true := by
  unfold layD
  rw [lay_rows nss, decide_eq_true (by have := depth_rows nss; omega)]
  rfl
theorem lay_ptsQ : ∀ ps : List (Int × Int), PyData.canLayAll0 (ps.map fun p => dP p.1 p.2) = true ∧ PyData.depthAll (ps.map fun p => dP p.1 p.2) ≤ 1
  | [] => ⟨rfl, by simp [PyData.depthAll]⟩
  | p :: r => by
    have h := lay_ptsQ r
    have e : PyData.canLay0 (dP p.1 p.2) = true := by simp [dP, PyData.canLay0, PyData.canLayAll0]
    have e2 : (dP p.1 p.2).depth = 1 := by simp [dP, PyData.depth, PyData.depthAll]
    rw [List.map_cons]
    constructor
    · rw [PyData.canLayAll0, e, h.1]; rfl
    · rw [PyData.depthAll, e2]
      have := h.2
      omega
theorem lay_ptsL (ps : List (Int × Int)) : layD (ps.map fun p => dP p.1 p.2) = true := by
  unfold layD
  rw [(lay_ptsQ ps).1, decide_eq_true (by have := (lay_ptsQ ps).2; omega)]
  rfl
theorem rows_w {h w : Nat} {cs : List Int} {ns : List Int} (h1 : ns ∈ numbersOf h w cs) : ns.length = w := by
  unfold numbersOf at h1
  obtain ⟨r, _, rfl⟩ := List.mem_map.mp h1
  rw [List.length_map, List.length_range]
theorem rows_h {h w : Nat} {cs : List Int} : (numbersOf h w cs).length = h := by
  unfold numbersOf
  rw [List.length_map, List.length_range]
section
variable {K : PySem.W.Frag} {C : Ad} {H : Hp} {g : Addr} {h w : Nat} {xss : List (List Int)}
theorem asks0 (hs : SqT K H g [.int (h : Int), .int (w : Int)]) (gk : GOk h w) (hx : ∀ xs ∈ xss, COk h w xs) : Asks K (sp_lm_l_cells_right_0 K C [some (.ref g)]) xss (fun cs => (numbersOf h w cs).map dI) H := fun xs hm => ⟨lay_rowsD _, fun H1 a Q e1 ha q =>
  ⟨_, rfl, g, h, w, a, xs, rfl, rfl, ex_t e1 hs, gk, ha, hx xs hm, fun v H2 e2 hv => q v H2 e2 (newLL_dat hv (fun ns hn z => by
    have := rows_w hn
    rw [z] at this
    have := gk.2.2.1
    simp at *
    omega) (by rw [rows_h]; have := gk.2.1; omega))⟩⟩
theorem asks1 (hs : SqT K H g [.int (h : Int), .int (w : Int)]) (gk : GOk h w) (hx : ∀ xs ∈ xss, COk h w xs ∧ isRing h w xs = true ∧ ∃ pts, walkOf h w xs = some pts ∧ pts.length ≤ 1000) : Asks K (sp_lm_l_cells_right_1 K C [some (.ref g)]) xss (fun cs => ((walkOf h w cs).getD []).map fun p => dP p.1 p.2) H := fun xs hm => ⟨lay_ptsL _, fun H1 a Q e1 ha q => by
  obtain ⟨k1, k2, pts, k3, k4⟩ := hx xs hm
  dsimp only at q
  rw [k3] at q
  exact ⟨_, rfl, g, h, w, a, xs, pts, rfl, rfl, ex_t e1 hs, gk, ha, k1, k2, k3, fun v H2 e2 hv => q v H2 e2 (newPts_dat e2 hv k4)⟩⟩
theorem asks2 {o : Addr} {os : List Int} (hs : SqT K H g [.int (h : Int), .int (w : Int)]) (gk : GOk h w) (ho : SqL K H o (os.map V.int)) (hn : os ≠ []) (hl : os.length ≤ 1000) (hx : ∀ xs ∈ xss, COk h w xs) : Asks K (sp_lm_l_cells_right_2 K C [some (.ref g), some (.ref o)]) xss (fun cs => [.bool (showsG h w os (judgedM h w cs))]) H := fun xs hm => ⟨by dsimp only; generalize showsG h w os (judgedM h w xs) = b; cases b <;> decide +kernel, fun H1 a Q e1 ha q =>
  ⟨_, rfl, g, h, w, a, xs, o, os, rfl, rfl, ex_t e1 hs, gk, ha, hx xs hm, ex_l e1 ho, hn, hl, fun p H2 hp e2 h2 => q _ H2 e2 ⟨p, _, rfl, hp, h2, by simp, .cons (.bl _) .nil, fun m xs hm => .cons (.bl _) .nil⟩⟩⟩
end
theorem startF2 {N : List Str} (hN : N.length = 2) {x : V} {y : Option V} : startF N [x] [y] = [some x, y] := by unfold startF; rw [hN]; rfl
theorem startF3 {N : List Str} (hN : N.length = 3) {x : V} {y z : Option V} : startF N [x] [y, z] = [some x, y, z] := by unfold startF; rw [hN]; rfl
theorem pure_lm_l_cells_right_0 {K : PySem.W.Frag} {C : Ad} {vs : List V} {ws : List (Option V)} {H : Hp} {Q : VK} {E : XK} {N : List Str} (hN : N.length = 2) (h : sp_lm_l_cells_right_0 K C ws vs H Q E) : t_lm_l_cells_right_0 K C E (startF N vs ws) H Q := by
  obtain ⟨_, rfl, g, h, w, c, cs, rfl, rfl, h1, h2, h3, h4, q⟩ := h
  rw [startF2 hN]
  exact ep_numbersS (K := K) (C := C) (est_of (ev_var rfl) h1) h2 (es_of (ev_var rfl) h3) h4 H (Ex.refl H) Q q
theorem pure_lm_l_cells_right_1 {K : PySem.W.Frag} {C : Ad} {vs : List V} {ws : List (Option V)} {H : Hp} {Q : VK} {E : XK} {N : List Str} (hN : N.length = 2) (h : sp_lm_l_cells_right_1 K C ws vs H Q E) : t_lm_l_cells_right_1 K C E (startF N vs ws) H Q := by
  obtain ⟨_, rfl, g, h, w, c, cs, pts, rfl, rfl, h1, h2, h3, h4, h5, h6, q⟩ := h
  rw [startF2 hN]
  exact ep_walk (K := K) (C := C) (est_of (ev_var rfl) h1) h2 (es_of (ev_var rfl) h3) h4 h5 h6 H (Ex.refl H) Q q
theorem pure_lm_l_cells_right_2 {K : PySem.W.Frag} {C : Ad} {vs : List V} {ws : List (Option V)} {H : Hp} {Q : VK} {E : XK} {N : List Str} (hN : N.length = 3) (h : sp_lm_l_cells_right_2 K C ws vs H Q E) : t_lm_l_cells_right_2 K C E (startF N vs ws) H Q := by
  obtain ⟨_, rfl, g, h, w, c, cs, o, os, rfl, rfl, h1, h2, h3, h4, h5, h6, h7, q⟩ := h
  rw [startF3 hN]
  exact el_lst (ea_cons (ev_showsGP (K := K) (C := C) (ep_judged (K := K) (C := C) (E := E) (est_of (ev_var rfl) h1) h2 (es_of (ev_var rfl) h3) h4) (fun z => z.at) (est_of (ev_var rfl) h1) h2 (es_of (ev_var rfl) h5) h6 h7) ea_nil) (by simp) H (Ex.refl H) _ fun p H2 hp e2 h2 => q p H2 hp e2 h2

/-! ### k11: comprehensions over such lists; a refusal's word -/
open LamX NdefX
section
variable {K : PySem.W.Frag} {σ : L2.St} {H : Hp} {tl te : TE} {g : TG} {P : Hp → V → Prop} {vs : List Nat} {n : Nat} {u : V}
theorem rep_snoc {α : Type} (n : Nat) (x : α) : List.replicate (n + 1) x = List.replicate n x ++ [x] := by
  rw [List.replicate_succ', ]
/-- [the same of each x in xs], nothing old changed -/
theorem el_lcP (m : Mono P) (h : EvP tl σ H (fun _ v H2 => InAll P n H2 v)) (hz : n ≤ 1000)
    (hx : ∀ x H1, Ex H H1 → P H1 x → ∀ Q : VK, (∀ H2, Ex H1 H2 → Q u H2) → g x (wipe σ vs) H1 fun σ2 H2 => wipe σ2 vs = wipe σ vs ∧ te σ2 H2 Q) : EvL (tLc (iList K tl) g tYes te vs) σ H (List.replicate n u) := fun H0 e Q q =>
  h H0 e _ fun v H1 e1 hv => by
    obtain ⟨a, xs, rfl, ha, hl, hP⟩ := hv
    refine ⟨a, rfl, ⟨xs, sq_of ha⟩, fun Dl hD => ?_⟩
    refine lc_list (xs := xs) (fun i H' => H1 Dl = none ∧ Ex H1 H' ∧ H' Dl = some (.lst (List.replicate i u))) ⟨hD, Ex.new hD, upd_same⟩ (fun i H' _ p => sq_of (p.2.1 _ _ ha)) (fun i x H' hi p => ?_) (fun H' p => ?_)
    · obtain ⟨p1, p2, p3⟩ := p
      have hm : x ∈ xs := List.mem_of_getElem? hi
      have hi2 := (List.getElem?_eq_some_iff.mp hi).1
      have := hx x H' (e.trans (e1.trans p2)) (m _ _ _ p2 (hP x hm)) (fun y H4 => ∃ acc, H4 Dl = some (.lst acc) ∧ acc.length < sizeLine ∧ H1 Dl = none ∧ Ex H1 (upd H4 Dl (.lst (acc ++ [y]))) ∧ (upd H4 Dl (.lst (acc ++ [y]))) Dl = some (.lst (List.replicate (i + 1) u))) fun H4 e4 => ⟨_, e4 _ _ p3, sz_lt (by rw [List.length_replicate]; omega), p1, Ex.mut (p2.trans e4) p1, by rw [upd_same, rep_snoc]⟩
      exact this
    · obtain ⟨p1, p2, p3⟩ := p
      rw [hl] at p3
      exact q Dl H' (fresh_back e1 p1) (e1.trans p2) p3
/-- .. where lambdas are made -/
theorem lcN {T : List NTab} {Q : VK} {a : Addr} {xs : List V} (mN : ∀ H H' v, ExtN H H' → P H v → P H' v) (hT : TabsN T H) (h : tl = tVar n) (hs : σ[n]? = some (some (.ref a))) (ha : SqL K H a xs) (hP : ∀ x ∈ xs, P H x) (hz : xs.length ≤ 1000)
    (hx : ∀ x H1, ExtN H H1 → TabsN T H1 → P H1 x → ∀ Q : VK, (∀ H2, ExtN H1 H2 → TabsN T H2 → Q u H2) → g x (wipe σ vs) H1 fun σ2 H2 => wipe σ2 vs = wipe σ vs ∧ te σ2 H2 Q)
    (q : ∀ D H1, ExtN H H1 → TabsN T H1 → H1 D = some (.lst (List.replicate xs.length u)) → Q (.ref D) H1) : tLc (iList K tl) g tYes te vs σ H Q := by
  subst h
  refine ⟨_, hs, a, rfl, ⟨xs, ha⟩, fun Dl hD => ?_⟩
  have up : ∀ {H4 : Hp} {y : HO}, ExtN H H4 → ExtN H (upd H4 Dl y) := fun {H4 y} e b o hb hn => by
    rw [upd_ne (ne_of_none hb hD)]
    exact e b o hb hn
  have tp : ∀ {H4 : Hp} {acc y : List V}, TabsN T H4 → H4 Dl = some (.lst acc) → TabsN T (upd H4 Dl (.lst y)) := fun {H4 acc y} t hd p hp => by
    obtain ⟨ps, h1, h2, h3⟩ := t p hp
    have ne : p.1 ≠ Dl := fun z => by rw [z, hd] at h1; cases h1
    refine ⟨ps, by rw [upd_ne ne]; exact h1, h2, fun pos cv z => ?_⟩
    obtain ⟨c, e1, e2⟩ := h3 pos cv z
    refine ⟨c, e1, ?_⟩
    have ne2 : c ≠ Dl := fun z => by rw [z, hd] at e2; cases e2
    rw [upd_ne ne2]
    exact e2
  have t0 : TabsN T (upd H Dl (.lst [])) := hT.ext fun b o e => by rw [upd_ne (ne_of_none e hD)]; exact e
  refine lc_list (xs := xs) (fun i H' => ExtN H H' ∧ TabsN T H' ∧ H' Dl = some (.lst (List.replicate i u))) ⟨up (ExtN.refl H), t0, upd_same⟩ (fun i H' _ p => sql_N p.1 ha) (fun i x H' hi p => ?_) (fun H' p => ?_)
  · obtain ⟨p1, p2, p3⟩ := p
    have hm : x ∈ xs := List.mem_of_getElem? hi
    have hi2 := (List.getElem?_eq_some_iff.mp hi).1
    refine hx x H' p1 p2 (mN _ _ _ p1 (hP x hm)) _ fun H4 e4 t4 => ?_
    have d4 : H4 Dl = some (.lst (List.replicate i u)) := e4 _ _ p3 fun _ z => nomatch z
    exact ⟨_, d4, sz_lt (by rw [List.length_replicate]; omega), up (p1.trans e4), tp t4 d4, by rw [upd_same, rep_snoc]⟩
  · exact q Dl H' p.1 p.2.1 p.2.2
end
/-! ### a list of words, all alike -/
def wdsD (w : Str) (n : Nat) : PyData := .list (List.replicate n (.str w))
theorem dpAll_rep {K : PySem.W.Frag} {H : Hp} {v : V} {d : PyData} (h : Dp K H v d) : ∀ n, DpAll K H (List.replicate n v) (List.replicate n d)
  | 0 => .nil
  | n + 1 => .cons h (dpAll_rep h n)
theorem dp_wds {K : PySem.W.Frag} {H : Hp} {a : Addr} {w : Str} {n : Nat} (h : SqL K H a (List.replicate n (.str w))) : Dp K H (.ref a) (wdsD w n) := .lst h (dpAll_rep (.str w) n)
theorem rep_flat {α : Type} (w : Nat) (x : α) : (List.replicate w [x]).flatten = List.replicate w x := by
  induction w with
  | zero => rfl
  | succ w ih => rw [List.replicate_succ, List.flatten_cons, ih]; rfl
theorem el_repW {σ : L2.St} {H : Hp} {w : Str} {n : Nat} (hn : n ≤ 90) : EvL (tOp rRep (tLst (tCons (tC (.str w)) tNil)) (tC (.int (n : Int)))) σ H (List.replicate n (.str w)) := by
  have := el_rep (σ := σ) (H := H) (n := n) (xs := [V.str w]) (ta := tLst (tCons (tC (.str w)) tNil)) (tb := tC (.int (n : Int))) (el_lst (ea_cons ev_c ea_nil) (by simp)) ev_c (by omega) (by simp)
  rw [rep_flat] at this
  exact this
theorem ed_wds {K : PySem.W.Frag} {σ : L2.St} {H : Hp} {te : TE} {w : Str} {n : Nat} (h : EvL te σ H (List.replicate n (.str w))) : EvD K te σ H (wdsD w n) := fun H1 e Q q => h H1 e _ fun p H2 _ e2 h2 => q _ H2 e2 (dp_wds (sq_of h2))
/-! ### _law_word -/
structure Fns11 where
  (told fitting rings : Addr)
structure Lams11 where
  (lm_l_numbers_right_0 lm_l_refused_right_0 lm_l_refused_right_1 lm_l_refused_right_2 lm_l_refused_right_3 : Lam0)
def NoRingC (K : PySem.W.Frag) (H : Hp) (v : V) : Prop := ∃ a cs, v = .ref a ∧ SqL K H a ((cs : List Int).map V.int) ∧ COk 3 3 cs ∧ isRing 3 3 cs = false
def sp_lm_l_numbers_right_0 (K : PySem.W.Frag) (C : Ad) : Sp := fun vs H Q E => ∃ v, vs = [v] ∧ NoRingC K H v ∧ RetE C.cNoRing H E
def sp_lm_l_refused_right_0 (K : PySem.W.Frag) (C : Ad) : Sp := fun vs H Q E => ∃ v, vs = [v] ∧ BadC K H 4 v ∧ RetE C.cBadCells H E
def sp_lm_l_refused_right_1 (K : PySem.W.Frag) (C : Ad) : Sp := fun vs H Q E => ∃ v, vs = [v] ∧ BadC K H 4 v ∧ RetE C.cBadCells H E
def sp_lm_l_refused_right_2 (K : PySem.W.Frag) (C : Ad) : Sp := fun vs H Q E => ∃ v, vs = [v] ∧ BadC K H 4 v ∧ RetE C.cBadCells H E
def sp_lm_l_refused_right_3 (K : PySem.W.Frag) (C : Ad) : Sp := fun vs H Q E => ∃ v, vs = [v] ∧ BadG K H v ∧ RetE C.cBadGrid H E
def t_lm_l_numbers_right_0 (K : PySem.W.Frag) (C : Ad) (E : XK) : TE := (tCall (sp_walk K C) [] E (tCons (tTup (tCons (tC (.int 3)) (tCons (tC (.int 3)) tNil))) (tCons (tVar 0) tNil)))
def t_lm_l_refused_right_0 (K : PySem.W.Frag) (C : Ad) (E : XK) : TE := (tCall (sp_numbers K C) [] E (tCons (tTup (tCons (tC (.int 2)) (tCons (tC (.int 2)) tNil))) (tCons (tVar 0) tNil)))
def t_lm_l_refused_right_1 (K : PySem.W.Frag) (C : Ad) (E : XK) : TE := (tCall (sp_judged K C) [] E (tCons (tTup (tCons (tC (.int 2)) (tCons (tC (.int 2)) tNil))) (tCons (tVar 0) tNil)))
def t_lm_l_refused_right_2 (K : PySem.W.Frag) (C : Ad) (E : XK) : TE := (tCall (sp_walk K C) [] E (tCons (tTup (tCons (tC (.int 2)) (tCons (tC (.int 2)) tNil))) (tCons (tVar 0) tNil)))
def t_lm_l_refused_right_3 (K : PySem.W.Frag) (C : Ad) (E : XK) : TE := (tCall (sp_judged K C) [] E (tCons (tVar 0) (tCons (tC .non) tNil)))
theorem pure_lm_l_numbers_right_0 {K : PySem.W.Frag} {C : Ad} {vs : List V} {ws : List (Option V)} {H : Hp} {Q : VK} {E : XK} {N : List Str} (hN : N.length = 1) (hw : ws = []) (h : sp_lm_l_numbers_right_0 K C vs H Q E) : t_lm_l_numbers_right_0 K C E (startF N vs ws) H Q := by
  obtain ⟨v, rfl, ⟨a, cs, rfl, h1, h2, h3⟩, q⟩ := h
  subst hw
  have e : startF N [V.ref a] [] = [some (V.ref a)] := by unfold startF; rw [hN]; rfl
  rw [e]
  exact call_bad2 (K := K) (xs := [.int ((3 : Nat) : Int), .int ((3 : Nat) : Int)]) (est_new (eu_tup (ea_cons ev_c (ea_cons ev_c ea_nil)) (by simp))) (ev_var rfl) fun g H2 e2 hg => ⟨.ref g, .ref a, rfl, .inr ⟨g, 3, 3, rfl, hg, ⟨by decide, by decide, by decide, by decide⟩, .inr ⟨a, cs, rfl, ex_l e2 h1, h2, .inl ⟨h3, q.mono e2⟩⟩⟩⟩
theorem pure_lm_l_refused_right_0 {K : PySem.W.Frag} {C : Ad} {vs : List V} {ws : List (Option V)} {H : Hp} {Q : VK} {E : XK} {N : List Str} (hN : N.length = 1) (hw : ws = []) (h : sp_lm_l_refused_right_0 K C vs H Q E) : t_lm_l_refused_right_0 K C E (startF N vs ws) H Q := by
  obtain ⟨v, rfl, hb, q⟩ := h
  subst hw
  have e : startF N [v] [] = [some v] := by unfold startF; rw [hN]; rfl
  rw [e]
  exact call_bad2 (K := K) (xs := [.int ((2 : Nat) : Int), .int ((2 : Nat) : Int)]) (est_new (eu_tup (ea_cons ev_c (ea_cons ev_c ea_nil)) (by simp))) (ev_var rfl) fun g H2 e2 hg => ⟨.ref g, v, rfl, .inr ⟨g, 2, 2, rfl, hg, ⟨by decide, by decide, by decide, by decide⟩, .inl ⟨hb.mono e2, q.mono e2⟩⟩⟩
theorem pure_lm_l_refused_right_1 {K : PySem.W.Frag} {C : Ad} {vs : List V} {ws : List (Option V)} {H : Hp} {Q : VK} {E : XK} {N : List Str} (hN : N.length = 1) (hw : ws = []) (h : sp_lm_l_refused_right_1 K C vs H Q E) : t_lm_l_refused_right_1 K C E (startF N vs ws) H Q := by
  obtain ⟨v, rfl, hb, q⟩ := h
  subst hw
  have e : startF N [v] [] = [some v] := by unfold startF; rw [hN]; rfl
  rw [e]
  exact call_bad2 (K := K) (xs := [.int ((2 : Nat) : Int), .int ((2 : Nat) : Int)]) (est_new (eu_tup (ea_cons ev_c (ea_cons ev_c ea_nil)) (by simp))) (ev_var rfl) fun g H2 e2 hg => ⟨.ref g, v, rfl, .inr ⟨g, 2, 2, rfl, hg, ⟨by decide, by decide, by decide, by decide⟩, .inl ⟨hb.mono e2, q.mono e2⟩⟩⟩
theorem pure_lm_l_refused_right_2 {K : PySem.W.Frag} {C : Ad} {vs : List V} {ws : List (Option V)} {H : Hp} {Q : VK} {E : XK} {N : List Str} (hN : N.length = 1) (hw : ws = []) (h : sp_lm_l_refused_right_2 K C vs H Q E) : t_lm_l_refused_right_2 K C E (startF N vs ws) H Q := by
  obtain ⟨v, rfl, hb, q⟩ := h
  subst hw
  have e : startF N [v] [] = [some v] := by unfold startF; rw [hN]; rfl
  rw [e]
  exact call_bad2 (K := K) (xs := [.int ((2 : Nat) : Int), .int ((2 : Nat) : Int)]) (est_new (eu_tup (ea_cons ev_c (ea_cons ev_c ea_nil)) (by simp))) (ev_var rfl) fun g H2 e2 hg => ⟨.ref g, v, rfl, .inr ⟨g, 2, 2, rfl, hg, ⟨by decide, by decide, by decide, by decide⟩, .inl ⟨hb.mono e2, q.mono e2⟩⟩⟩
theorem pure_lm_l_refused_right_3 {K : PySem.W.Frag} {C : Ad} {vs : List V} {ws : List (Option V)} {H : Hp} {Q : VK} {E : XK} {N : List Str} (hN : N.length = 1) (hw : ws = []) (h : sp_lm_l_refused_right_3 K C vs H Q E) : t_lm_l_refused_right_3 K C E (startF N vs ws) H Q := by
  obtain ⟨v, rfl, hb, q⟩ := h
  subst hw
  have e : startF N [v] [] = [some v] := by unfold startF; rw [hN]; rfl
  rw [e]
  exact ⟨v, rfl, v, .non, rfl, .inl ⟨hb, q⟩⟩
def RWord (K : PySem.W.Frag) (C : Ad) (F : Fns11) (f : Addr) (sp : Sp) : Prop := (f = F.told ∧ sp = sp_told K C) ∨ (f = F.fitting ∧ sp = sp_fitting K C) ∨ (f = F.rings ∧ sp = sp_rings K C)
def RLam (K : PySem.W.Frag) (C : Ad) (L : Lams11) (F : NL) (sp : Sp) : Prop := (∃ c, F = L.lm_l_numbers_right_0.at c ∧ sp = sp_lm_l_numbers_right_0 K C) ∨ (∃ c, F = L.lm_l_refused_right_0.at c ∧ sp = sp_lm_l_refused_right_0 K C) ∨ (∃ c, F = L.lm_l_refused_right_1.at c ∧ sp = sp_lm_l_refused_right_1 K C) ∨ (∃ c, F = L.lm_l_refused_right_2.at c ∧ sp = sp_lm_l_refused_right_2 K C) ∨ (∃ c, F = L.lm_l_refused_right_3.at c ∧ sp = sp_lm_l_refused_right_3 K C)
/-- sp raises c of the thing th -/
def Raises (sp : Sp) (c : Addr) (th : V) (H : Hp) : Prop := ∀ H1 Q1 E1, Ex H H1 → RetE c H1 E1 → sp [th] H1 Q1 E1
def WdOf (C : Ad) (c : Addr) (wd : Str) : Prop := (c = C.cBadCells ∧ wd = "cells") ∨ (c = C.cBadClues ∧ wd = "clues") ∨ (c = C.cBadGrid ∧ wd = "grid") ∨ (c = C.cNoRing ∧ wd = "ring")
def sp_l_word (K : PySem.W.Frag) (C : Ad) (F : Fns11) (L : Lams11) : Sp := fun vs H Q _ => ∃ ask th c wd, vs = [.ref ask, th] ∧ WdOf C c wd ∧
  ((∃ sp, RWord K C F ask sp ∧ Raises sp c th H) ∨ (∃ nl, H ask = some (LamO ask nl) ∧ nl.cl = [] ∧ H nl.c = some (CodeO nl.c nl.qual) ∧ ∃ sp, RLam K C L nl sp ∧ Raises sp c th H)) ∧ RetV (.str wd) H Q
def t_l_word (K : PySem.W.Frag) (C : Ad) (F : Fns11) (L : Lams11) : TS := (tSeq (tTry K (.ref C.cRingError) 2 (fun W => (tDrop (tAlt (tCallR 0 (RWord K C F) (WE W) (tCons (tVar 1) tNil)) (tCallLm 0 (RLam K C L) (WE W) (tCons (tVar 1) tNil))))) (fun ea ec ed => (tSeq (tAsg (tLst (tCons (tCB (rIsX K ec ed ea) (tCons (tVar 2) (tCons (tC (.ref C.cBadCells)) tNil))) (tCons (tCB (rIsX K ec ed ea) (tCons (tVar 2) (tCons (tC (.ref C.cBadClues)) tNil))) tNil))) (gName 3))
      (tSeq (tAsg (tOp rCat (tVar 3) (tLst (tCons (tCB (rIsX K ec ed ea) (tCons (tVar 2) (tCons (tC (.ref C.cBadGrid)) tNil))) (tCons (tCB (rIsX K ec ed ea) (tCons (tVar 2) (tCons (tC (.ref C.cNoRing)) tNil))) tNil)))) (gName 3))
      (tRet (tIf (tTest (tOp (rIn K false) (tC (.bl true)) (tVar 3))) (tOp (rIxT K) (tTup (tCons (tC (.str "cells")) (tCons (tC (.str "clues")) (tCons (tC (.str "grid")) (tCons (tC (.str "ring")) tNil))))) (tBM K "list" (rIndex K) (tVar 3) (tCons (tC (.bl true)) tNil))) (tC (.str "other"))))))))
      (tRet (tC (.str "done"))))
theorem word_suite {K : PySem.W.Frag} {C : Ad} {D : Ends} {H : Hp} {a B ask : Addr} {th : V} {wd : Str} {b0 b1 b2 b3 : Bool} {j : Nat} (ex : ExcC K B) (k0 : PySem.W.kitOne K (.ref B) (.ref C.cBadCells) = some b0) (k1 : PySem.W.kitOne K (.ref B) (.ref C.cBadClues) = some b1) (k2 : PySem.W.kitOne K (.ref B) (.ref C.cBadGrid) = some b2) (k3 : PySem.W.kitOne K (.ref B) (.ref C.cNoRing) = some b3)
    (hi : inV (.bl true) [V.bl b0, V.bl b1, V.bl b2, V.bl b3] = true) (hj : [V.bl b0, V.bl b1, V.bl b2, V.bl b3][j]? = some (.bl true)) (hf : ∀ m z, m < j → [V.bl b0, V.bl b1, V.bl b2, V.bl b3][m]? = some z → eqV z (.bl true) = false) (hw : (["cells", "clues", "grid", "ring"] : List Str)[j]? = some wd) (q : RetV (.str wd) H D.rt) :
    tSeq (tAsg (tLst (tCons (tCB (rIsX K (.ref B) none a) (tCons (tVar 2) (tCons (tC (.ref C.cBadCells)) tNil))) (tCons (tCB (rIsX K (.ref B) none a) (tCons (tVar 2) (tCons (tC (.ref C.cBadClues)) tNil))) tNil))) (gName 3))
      (tSeq (tAsg (tOp rCat (tVar 3) (tLst (tCons (tCB (rIsX K (.ref B) none a) (tCons (tVar 2) (tCons (tC (.ref C.cBadGrid)) tNil))) (tCons (tCB (rIsX K (.ref B) none a) (tCons (tVar 2) (tCons (tC (.ref C.cNoRing)) tNil))) tNil)))) (gName 3))
      (tRet (tIf (tTest (tOp (rIn K false) (tC (.bl true)) (tVar 3))) (tOp (rIxT K) (tTup (tCons (tC (.str "cells")) (tCons (tC (.str "clues")) (tCons (tC (.str "grid")) (tCons (tC (.str "ring")) tNil))))) (tBM K "list" (rIndex K) (tVar 3) (tCons (tC (.bl true)) tNil))) (tC (.str "other"))))) D [some (.ref ask), some th, some (.ref a), none] H := by
  refine q_asgL (i := 3) (xs := [V.bl b0, V.bl b1]) (el_lst (ea_cons (ev_isX rfl ex k0) (ea_cons (ev_isX rfl ex k1) ea_nil)) (by simp)) fun p H1 hp e1 h1 => ?_
  have cat : EvL (tOp rCat (tVar 3) (tLst (tCons (tCB (rIsX K (.ref B) none a) (tCons (tVar 2) (tCons (tC (.ref C.cBadGrid)) tNil))) (tCons (tCB (rIsX K (.ref B) none a) (tCons (tVar 2) (tCons (tC (.ref C.cNoRing)) tNil))) tNil)))) [some (.ref ask), some th, some (.ref a), some (.ref p)] H1 ([V.bl b0, V.bl b1] ++ [V.bl b2, V.bl b3]) := fun H2 e2 Q' q' =>
    (ev_var (H := H1) (i := 3) (v := .ref p) rfl) H2 e2 _ fun H3 e3 => (el_lst (H := H1) (ea_cons (ev_isX (K := K) rfl ex k2) (ea_cons (ev_isX (K := K) rfl ex k3) ea_nil)) (by simp)) H3 (e2.trans e3) _ fun r H4 hr e4 h4 => ⟨p, r, _, _, rfl, rfl, e4 _ _ (e3 _ _ (e2 _ _ h1)), h4, sz_of (by simp), fun s hs => q' s _ (fresh_back (e3.trans e4) hs) ((e3.trans e4).trans (Ex.new hs)) upd_same⟩
  refine q_asgL (i := 3) cat fun p2 H2 hp2 e2 h2 => ?_
  have h2' : H2 p2 = some (.lst [V.bl b0, V.bl b1, V.bl b2, V.bl b3]) := h2
  have hin : Ev (tOp (rIn K false) (tC (.bl true)) (tVar 3)) [some (.ref ask), some th, some (.ref a), some (.ref p2)] H2 (.bl true) := fun H3 e3 Q' q' => ⟨_, rfl, p2, _, rfl, .inl (sq_of (e3 _ _ h2')), rfl, rfl, by
    show Q' (.bl (inV (.bl true) [V.bl b0, V.bl b1, V.bl b2, V.bl b3])) H3
    rw [hi]
    exact q' H3 (Ex.refl H3)⟩
  have hix : Ev (tBM K "list" (rIndex K) (tVar 3) (tCons (tC (.bl true)) tNil)) [some (.ref ask), some th, some (.ref a), some (.ref p2)] H2 (.int (j : Nat)) := fun H3 e3 Q' q' => ⟨_, rfl, Or.inl ⟨rfl, _, sq_of (e3 _ _ h2')⟩, p2, _, _, j, _, rfl, rfl, sq_of (e3 _ _ h2'), rfl, rfl, hj, rfl, hf, q' H3 (Ex.refl H3)⟩
  refine et_test hin H2 (Ex.refl H2) _ fun H3 e3 => ?_
  rw [if_pos rfl]
  show tRet (tOp _ _ _) D _ H3
  refine s_ret (v := .str wd) (ev_ixT (K := K) (xs := [.str "cells", .str "clues", .str "grid", .str "ring"]) (i := (j : Int)) (est_new (eu_tup (ea_cons ev_c (ea_cons ev_c (ea_cons ev_c (ea_cons ev_c ea_nil)))) (by simp))) (hix.mono e3) (atI_nat (by
    have : ([V.str "cells", V.str "clues", V.str "grid", V.str "ring"] : List V) = (["cells", "clues", "grid", "ring"] : List Str).map V.str := rfl
    rw [this, List.getElem?_map, hw]
    rfl))) fun H4 e4 => q H4 (((e1.trans e2).trans e3).trans e4)
theorem pure_l_word {K : PySem.W.Frag} {C : Ad} {F : Fns11} {L : Lams11} {vs : List V} {H : Hp} {Q : VK} {E : XK} {D : Ends} (hD : D.rt = Q) {N : List Str} (hN : N.length = 4) (em_BadGrid : PySem.W.exmOne K (.ref C.cBadGrid) (.ref C.cRingError) = some true) (em_BadCells : PySem.W.exmOne K (.ref C.cBadCells) (.ref C.cRingError) = some true) (em_BadClues : PySem.W.exmOne K (.ref C.cBadClues) (.ref C.cRingError) = some true) (em_NoRing : PySem.W.exmOne K (.ref C.cNoRing) (.ref C.cRingError) = some true)
    (ex_BadGrid : ExcC K C.cBadGrid) (ex_BadCells : ExcC K C.cBadCells) (ex_BadClues : ExcC K C.cBadClues) (ex_NoRing : ExcC K C.cNoRing) (ki_BadGrid_BadGrid : PySem.W.kitOne K (.ref C.cBadGrid) (.ref C.cBadGrid) = some true) (ki_BadCells_BadGrid : PySem.W.kitOne K (.ref C.cBadCells) (.ref C.cBadGrid) = some false) (ki_BadClues_BadGrid : PySem.W.kitOne K (.ref C.cBadClues) (.ref C.cBadGrid) = some false) (ki_NoRing_BadGrid : PySem.W.kitOne K (.ref C.cNoRing) (.ref C.cBadGrid) = some false) (ki_BadGrid_BadCells : PySem.W.kitOne K (.ref C.cBadGrid) (.ref C.cBadCells) = some false) (ki_BadCells_BadCells : PySem.W.kitOne K (.ref C.cBadCells) (.ref C.cBadCells) = some true) (ki_BadClues_BadCells : PySem.W.kitOne K (.ref C.cBadClues) (.ref C.cBadCells) = some false) (ki_NoRing_BadCells : PySem.W.kitOne K (.ref C.cNoRing) (.ref C.cBadCells) = some false) (ki_BadGrid_BadClues : PySem.W.kitOne K (.ref C.cBadGrid) (.ref C.cBadClues) = some false) (ki_BadCells_BadClues : PySem.W.kitOne K (.ref C.cBadCells) (.ref C.cBadClues) = some false) (ki_BadClues_BadClues : PySem.W.kitOne K (.ref C.cBadClues) (.ref C.cBadClues) = some true) (ki_NoRing_BadClues : PySem.W.kitOne K (.ref C.cNoRing) (.ref C.cBadClues) = some false) (ki_BadGrid_NoRing : PySem.W.kitOne K (.ref C.cBadGrid) (.ref C.cNoRing) = some false) (ki_BadCells_NoRing : PySem.W.kitOne K (.ref C.cBadCells) (.ref C.cNoRing) = some false) (ki_BadClues_NoRing : PySem.W.kitOne K (.ref C.cBadClues) (.ref C.cNoRing) = some false) (ki_NoRing_NoRing : PySem.W.kitOne K (.ref C.cNoRing) (.ref C.cNoRing) = some true)
    (h : sp_l_word K C F L vs H Q E) : t_l_word K C F L D (start N vs) H := by
  obtain ⟨ask, th, c, wd, rfl, hw, hk, q⟩ := h
  subst hD
  rw [start_eq hN]
  change t_l_word K C F L D [some (.ref ask), some th, none, none] H
  rcases hw with ⟨rfl, rfl⟩ | ⟨rfl, rfl⟩ | ⟨rfl, rfl⟩ | ⟨rfl, rfl⟩
  · rcases hk with ⟨sp, hR, hr⟩ | ⟨nl, h1, h2, h3, sp, hR, hr⟩
    · exact .inl ⟨ask, sp, rfl, hR, th, rfl, hr H _ _ (Ex.refl H) (fun H2 e2 => ⟨true, em_BadCells, fun _ a ha => word_suite (K := K) (C := C) (j := 0) ex_BadCells ki_BadCells_BadCells ki_BadCells_BadClues ki_BadCells_BadGrid ki_BadCells_NoRing rfl rfl (fun m z hm _ => absurd hm (Nat.not_lt_zero m)) rfl (fun H3 e3 => q H3 (e2.trans e3)), fun z => nomatch z⟩)⟩
    · exact .inr ⟨ask, nl, rfl, h1, h2, th, rfl, h1, h3, sp, hR, hr H _ _ (Ex.refl H) (fun H2 e2 => ⟨true, em_BadCells, fun _ a ha => word_suite (K := K) (C := C) (j := 0) ex_BadCells ki_BadCells_BadCells ki_BadCells_BadClues ki_BadCells_BadGrid ki_BadCells_NoRing rfl rfl (fun m z hm _ => absurd hm (Nat.not_lt_zero m)) rfl (fun H3 e3 => q H3 (e2.trans e3)), fun z => nomatch z⟩)⟩
  · rcases hk with ⟨sp, hR, hr⟩ | ⟨nl, h1, h2, h3, sp, hR, hr⟩
    · exact .inl ⟨ask, sp, rfl, hR, th, rfl, hr H _ _ (Ex.refl H) (fun H2 e2 => ⟨true, em_BadClues, fun _ a ha => word_suite (K := K) (C := C) (j := 1) ex_BadClues ki_BadClues_BadCells ki_BadClues_BadClues ki_BadClues_BadGrid ki_BadClues_NoRing rfl rfl (fun m z hm hz => by rcases m with _ | _ | _ | m <;> first | omega | (cases hz; rfl)) rfl (fun H3 e3 => q H3 (e2.trans e3)), fun z => nomatch z⟩)⟩
    · exact .inr ⟨ask, nl, rfl, h1, h2, th, rfl, h1, h3, sp, hR, hr H _ _ (Ex.refl H) (fun H2 e2 => ⟨true, em_BadClues, fun _ a ha => word_suite (K := K) (C := C) (j := 1) ex_BadClues ki_BadClues_BadCells ki_BadClues_BadClues ki_BadClues_BadGrid ki_BadClues_NoRing rfl rfl (fun m z hm hz => by rcases m with _ | _ | _ | m <;> first | omega | (cases hz; rfl)) rfl (fun H3 e3 => q H3 (e2.trans e3)), fun z => nomatch z⟩)⟩
  · rcases hk with ⟨sp, hR, hr⟩ | ⟨nl, h1, h2, h3, sp, hR, hr⟩
    · exact .inl ⟨ask, sp, rfl, hR, th, rfl, hr H _ _ (Ex.refl H) (fun H2 e2 => ⟨true, em_BadGrid, fun _ a ha => word_suite (K := K) (C := C) (j := 2) ex_BadGrid ki_BadGrid_BadCells ki_BadGrid_BadClues ki_BadGrid_BadGrid ki_BadGrid_NoRing rfl rfl (fun m z hm hz => by rcases m with _ | _ | _ | m <;> first | omega | (cases hz; rfl)) rfl (fun H3 e3 => q H3 (e2.trans e3)), fun z => nomatch z⟩)⟩
    · exact .inr ⟨ask, nl, rfl, h1, h2, th, rfl, h1, h3, sp, hR, hr H _ _ (Ex.refl H) (fun H2 e2 => ⟨true, em_BadGrid, fun _ a ha => word_suite (K := K) (C := C) (j := 2) ex_BadGrid ki_BadGrid_BadCells ki_BadGrid_BadClues ki_BadGrid_BadGrid ki_BadGrid_NoRing rfl rfl (fun m z hm hz => by rcases m with _ | _ | _ | m <;> first | omega | (cases hz; rfl)) rfl (fun H3 e3 => q H3 (e2.trans e3)), fun z => nomatch z⟩)⟩
  · rcases hk with ⟨sp, hR, hr⟩ | ⟨nl, h1, h2, h3, sp, hR, hr⟩
    · exact .inl ⟨ask, sp, rfl, hR, th, rfl, hr H _ _ (Ex.refl H) (fun H2 e2 => ⟨true, em_NoRing, fun _ a ha => word_suite (K := K) (C := C) (j := 3) ex_NoRing ki_NoRing_BadCells ki_NoRing_BadClues ki_NoRing_BadGrid ki_NoRing_NoRing rfl rfl (fun m z hm hz => by rcases m with _ | _ | _ | m <;> first | omega | (cases hz; rfl)) rfl (fun H3 e3 => q H3 (e2.trans e3)), fun z => nomatch z⟩)⟩
    · exact .inr ⟨ask, nl, rfl, h1, h2, th, rfl, h1, h3, sp, hR, hr H _ _ (Ex.refl H) (fun H2 e2 => ⟨true, em_NoRing, fun _ a ha => word_suite (K := K) (C := C) (j := 3) ex_NoRing ki_NoRing_BadCells ki_NoRing_BadClues ki_NoRing_BadGrid ki_NoRing_NoRing rfl rfl (fun m z hm hz => by rcases m with _ | _ | _ | m <;> first | omega | (cases hz; rfl)) rfl (fun H3 e3 => q H3 (e2.trans e3)), fun z => nomatch z⟩)⟩

/-! ### k11: cases on paper; the numbers and the walks -/
open LamX NdefX
section
variable {K : PySem.W.Frag} {C : Ad} {σ : L2.St} {H H' : Hp} {ta tb te : TE} {v : V} {d : PyData}
theorem ed_rep1 {n : Nat} (h : EvD K te σ H d) (hn : n ≤ 90) : EvD K (tOp rRep (tLst (tCons te tNil)) (tC (.int (n : Int)))) σ H (.list (List.replicate n d)) := fun H0 e Q q => by
  refine h H0 e _ fun v H1 e1 hv => ⟨sz_of (by simp), fun r hr => ?_⟩
  refine ⟨r, (n : Int), [v], rfl, rfl, upd_same, by omega, by omega, sz_of (by rw [Int.toNat_natCast]; simp; omega), fun l hl => ?_⟩
  rw [Int.toNat_natCast, rep_flat]
  have e3 : Ex H1 (upd (upd H1 r (.lst [v])) l (.lst (List.replicate n v))) := (Ex.new hr).trans (Ex.new hl)
  exact q _ _ (e1.trans e3) (.lst (sq_of upd_same) (dpAll_rep (Dp.mono e3 hv) n))
theorem el_listRgN {σ : L2.St} {H : Hp} {ta : TE} {n : Nat} (h : Ev ta σ H (.int (n : Int))) (hn : n ≤ 1000) : EvL (tLstRg (tRg1 ta)) σ H ((List.range n).map fun (i : Nat) => V.int (i : Int)) := fun H1 e Q q =>
  h H1 e _ fun H2 e2 => ⟨_, rfl, RgOk.of_le (by omega) (by omega) (by omega) (by omega), fun p hp => by
    have := q p (upd H2 p (.lst (rgV 0 (n : Int)))) (fresh_back e2 hp) (e2.trans (Ex.new hp)) (by
      rw [upd_same]
      unfold rgV
      rw [show ((n : Int) - 0).toNat = n by omega]
      congr 2
      refine List.map_congr_left fun i _ => ?_
      rw [Int.zero_add])
    exact this⟩
theorem ed_rg {n : Nat} (hn : n ≤ 1000) : EvD K (tLstRg (tRg1 (tC (.int (n : Int))))) σ H (dI ((List.range n).map fun (i : Nat) => (i : Int))) := by
  refine ed_ints (es_new (K := K) ?_)
  rw [List.map_map]
  exact el_listRgN ev_c hn
def sp_l_eight (K : PySem.W.Frag) : Sp := fun vs H Q _ => ∃ u : Unit, vs = [] ∧ RetP (NewL (([0, 1, 2, 3, 5, 6, 7, 8] : List Int).map V.int)) H Q
theorem el_eight {E : XK} : EvL (tCall (sp_l_eight K) [] E tNil) σ H (([0, 1, 2, 3, 5, 6, 7, 8] : List Int).map V.int) := fun H1 e Q q => ⟨(), rfl, fun v H2 e2 hv => by
  obtain ⟨p, rfl, h1, h2⟩ := hv
  exact q p H2 h1 e2 h2⟩
theorem ed_eight {E : XK} : EvD K (tCall (sp_l_eight K) [] E tNil) σ H (dI [0, 1, 2, 3, 5, 6, 7, 8]) := ed_ints (es_new el_eight)
end
def t_l_eight (K : PySem.W.Frag) : TS := (tRet (tLst (tCons (tC (.int 0)) (tCons (tC (.int 1)) (tCons (tC (.int 2)) (tCons (tC (.int 3)) (tCons (tC (.int 5)) (tCons (tC (.int 6)) (tCons (tC (.int 7)) (tCons (tC (.int 8)) tNil))))))))))
theorem pure_l_eight {K : PySem.W.Frag} {vs : List V} {H : Hp} {Q : VK} {E : XK} {D : Ends} (hD : D.rt = Q) {N : List Str} (hN : N.length = 0) (h : sp_l_eight K vs H Q E) : t_l_eight K D (start N vs) H := by
  obtain ⟨_, rfl, q⟩ := h
  subst hD
  rw [start_eq hN]
  exact (el_lst (σ := []) (H := H) (vs := ([0, 1, 2, 3, 5, 6, 7, 8] : List Int).map V.int) (ea_cons ev_c (ea_cons ev_c (ea_cons ev_c (ea_cons ev_c (ea_cons ev_c (ea_cons ev_c (ea_cons ev_c (ea_cons ev_c ea_nil)))))))) (by simp)) H (Ex.refl H) _ fun p H1 h1 e1 h2 => q _ H1 e1 ⟨p, rfl, h1, h2⟩
def gokB (h w : Nat) : Bool := decide (1 ≤ h) && decide (h ≤ 6) && decide (1 ≤ w) && decide (w ≤ 6)
theorem gok_by {h w : Nat} (d : gokB h w = true) : GOk h w := by
  simp only [gokB, Bool.and_eq_true, decide_eq_true_eq] at d
  exact ⟨d.1.1.1, d.1.1.2, d.1.2, d.2⟩
def cokB (h w : Nat) (cs : List Int) : Bool := !cs.isEmpty && cs.all (fun x => decide (0 ≤ x) && decide (x < (h : Int) * w)) && decide (cs.Pairwise (· < ·))
theorem cok_byB {h w : Nat} {cs : List Int} (d : cokB h w cs = true) : COk h w cs := by
  simp only [cokB, Bool.and_eq_true, List.all_eq_true, decide_eq_true_eq, Bool.not_eq_true', List.isEmpty_eq_false_iff] at d
  exact ⟨d.1.1, d.1.2, d.2⟩
def gD (h w : Nat) : PyData := .tuple [.int (h : Int), .int (w : Int)]
theorem tup3_dp {K : PySem.W.Frag} {H : Hp} {v : V} {a b c : PyData} (h : Dp K H v (.tuple [a, b, c])) : ∃ t x y z, v = .ref t ∧ SqT K H t [x, y, z] ∧ Dp K H x a ∧ Dp K H y b ∧ Dp K H z c := by
  cases h with
  | tup hs ha =>
    cases ha with
    | cons h1 ha => cases ha with
      | cons h2 ha => cases ha with
        | cons h3 ha =>
          cases ha
          exact ⟨_, _, _, _, rfl, hs, h1, h2, h3⟩
theorem tup2_dp {K : PySem.W.Frag} {H : Hp} {v : V} {a b : PyData} (h : Dp K H v (.tuple [a, b])) : ∃ t x y, v = .ref t ∧ SqT K H t [x, y] ∧ Dp K H x a ∧ Dp K H y b := by
  cases h with
  | tup hs ha =>
    cases ha with
    | cons h1 ha => cases ha with
      | cons h2 ha =>
        cases ha
        exact ⟨_, _, _, rfl, hs, h1, h2⟩
theorem grid_dp {K : PySem.W.Frag} {H : Hp} {v : V} {h w : Nat} (h0 : Dp K H v (gD h w)) : ∃ g, v = .ref g ∧ SqT K H g [.int (h : Int), .int (w : Int)] := by
  obtain ⟨g, x, y, rfl, hs, h1, h2⟩ := tup2_dp h0
  cases h1
  cases h2
  exact ⟨g, rfl, hs⟩
/-- a case of numbers -/
def CaseN (K : PySem.W.Frag) (H : Hp) (v : V) : Prop := ∃ h w cs nss, Dp K H v (.tuple [gD h w, dI cs, dII nss]) ∧ (gokB h w && cokB h w cs && decide (numbersOf h w cs = nss)) = true
theorem CaseN.mono {K : PySem.W.Frag} : Mono (CaseN K) := fun _ _ _ e ⟨h, w, cs, nss, h1, h2⟩ => ⟨h, w, cs, nss, Dp.mono e h1, h2⟩
def CaseW (K : PySem.W.Frag) (H : Hp) (v : V) : Prop := ∃ h w cs pts, Dp K H v (.tuple [gD h w, dI cs, dPts pts]) ∧ (gokB h w && cokB h w cs && isRing h w cs && decide (walkOf h w cs = some pts)) = true
theorem CaseW.mono {K : PySem.W.Frag} : Mono (CaseW K) := fun _ _ _ e ⟨h, w, cs, nss, h1, h2⟩ => ⟨h, w, cs, nss, Dp.mono e h1, h2⟩
theorem lay_ptsD : ∀ ps : List (Int × Int), PyData.canLayAll0 (ps.map fun p => dP p.1 p.2) = true ∧ PyData.depthAll (ps.map fun p => dP p.1 p.2) ≤ 1
  | [] => ⟨rfl, by simp [PyData.depthAll]⟩
  | p :: r => by
    have h := lay_ptsD r
    have e : PyData.canLay0 (dP p.1 p.2) = true := by simp [dP, PyData.canLay0, PyData.canLayAll0]
    have e2 : (dP p.1 p.2).depth = 1 := by simp [dP, PyData.depth, PyData.depthAll]
    rw [List.map_cons]
    constructor
    · rw [PyData.canLayAll0, e, h.1]; rfl
    · rw [PyData.depthAll, e2]
      have := h.2
      omega
theorem shaped_ptsD (ps : List (Int × Int)) : SeqAt.shaped (dPts ps) = true := shaped_of_len (lay_ptsD ps).1 (by have := (lay_ptsD ps).2; omega)
theorem eqv_ptsD (ps : List (Int × Int)) : PyData.eqv (dPts ps) (dPts ps) = true := SeqAt.eqv_refl _ (by unfold dPts; rw [PyData.canLay0]; exact (lay_ptsD ps).1)
section
variable {K : PySem.W.Frag} {C : Ad} {σ : L2.St} {H : Hp} {tl : TE} {n : Nat}
theorem any_rep (n : Nat) : (List.replicate n false).any id = false := by
  induction n with
  | zero => rfl
  | succ n ih => rw [List.replicate_succ, List.any_cons, ih]; rfl
/-- a slot that holds such a list -/
theorem ep_var {P : Hp → V → Prop} {i : Nat} {v : V} (m : Mono P) (hi : σ[i]? = some (some v)) (h : InAll P n H v) : EvP (tVar i) σ H (fun _ v H2 => InAll P n H2 v) := fun H1 e Q q => ⟨v, hi, q v H1 (Ex.refl H1) (InAll.mono m _ _ _ e h)⟩
theorem ev_anyRep {ta : TE} (h : EvL ta σ H (List.replicate n (.bl false))) : Ev (tCB (rAny K) (tCons ta tNil)) σ H (.bl false) := by
  have e : List.replicate n (V.bl false) = (List.replicate n false).map V.bl := by rw [List.map_replicate]
  rw [e] at h
  exact ev_is (ev_anyS (K := K) (es_new h)) (by rw [any_rep])
/-- any([numbers(grid, cells) != due for ..]) of good cases -/
theorem ev_anyN {i j k : Nat} {vs : List Nat} (h : EvP tl σ H (fun _ v H2 => InAll (CaseN K) n H2 v)) (hz : n ≤ 1000)
    (hw : ∀ x y z, wipe ((((wipe σ vs).set i (some x)).set j (some y)).set k (some z)) vs = wipe σ vs) (h1 : ∀ x y z : V, ((((wipe σ vs).set i (some x)).set j (some y)).set k (some z))[i]? = some (some x)) (h2 : ∀ x y z : V, ((((wipe σ vs).set i (some x)).set j (some y)).set k (some z))[j]? = some (some y)) (h3 : ∀ x y z : V, ((((wipe σ vs).set i (some x)).set j (some y)).set k (some z))[k]? = some (some z)) :
    Ev (tCB (rAny K) (tCons (tLc (iList K tl) (gTup K 3 (gCons (gName i) (gCons (gName j) (gCons (gName k) gNil)))) tYes (tOp (rNeD K) (tCall (sp_numbers K C) [] E0 (tCons (tVar i) (tCons (tVar j) tNil))) (tVar k)) vs) tNil)) σ H (.bl false) := by
  refine ev_anyRep (n := n) (el_lcP CaseN.mono h hz fun x H1 e1 hx Q q => ?_)
  obtain ⟨hh, ww, cs, nss, hd, hb⟩ := hx
  simp only [Bool.and_eq_true, decide_eq_true_eq] at hb
  obtain ⟨⟨b1, b2⟩, rfl⟩ := hb
  obtain ⟨t, x1, x2, x3, rfl, hs, d1, d2, d3⟩ := tup3_dp hd
  obtain ⟨g, rfl, hg⟩ := grid_dp d1
  obtain ⟨c, rfl, hc⟩ := row_of_dp d2
  refine ⟨t, _, rfl, hs, rfl, _, _, rfl, _, _, rfl, _, _, rfl, rfl, hw _ _ _, ?_⟩
  refine ev_is (ev_neD (d := dII (numbersOf hh ww cs)) (d' := dII (numbersOf hh ww cs)) (ed_p (ep_numbersS (K := K) (C := C) (E := E0) (est_of (ev_var (h1 _ _ _)) hg) (gok_by b1) (es_of (ev_var (h2 _ _ _)) hc) (cok_byB b2)) fun _ _ _ z => z.dp) (ed_of (ev_var (h3 _ _ _)) d3) (shaped_rows _) (shaped_rows _)) (w := .bl false) (by rw [eqv_dII]; simp) H1 (Ex.refl H1) Q q
/-- any([walk(grid, cells) != due for ..]) of good cases -/
theorem ev_anyW {i j k : Nat} {vs : List Nat} (h : EvP tl σ H (fun _ v H2 => InAll (CaseW K) n H2 v)) (hz : n ≤ 1000)
    (hw : ∀ x y z, wipe ((((wipe σ vs).set i (some x)).set j (some y)).set k (some z)) vs = wipe σ vs) (h1 : ∀ x y z : V, ((((wipe σ vs).set i (some x)).set j (some y)).set k (some z))[i]? = some (some x)) (h2 : ∀ x y z : V, ((((wipe σ vs).set i (some x)).set j (some y)).set k (some z))[j]? = some (some y)) (h3 : ∀ x y z : V, ((((wipe σ vs).set i (some x)).set j (some y)).set k (some z))[k]? = some (some z)) :
    Ev (tCB (rAny K) (tCons (tLc (iList K tl) (gTup K 3 (gCons (gName i) (gCons (gName j) (gCons (gName k) gNil)))) tYes (tOp (rNeD K) (tCall (sp_walk K C) [] E0 (tCons (tVar i) (tCons (tVar j) tNil))) (tVar k)) vs) tNil)) σ H (.bl false) := by
  refine ev_anyRep (n := n) (el_lcP CaseW.mono h hz fun x H1 e1 hx Q q => ?_)
  obtain ⟨hh, ww, cs, pts, hd, hb⟩ := hx
  simp only [Bool.and_eq_true, decide_eq_true_eq] at hb
  obtain ⟨⟨⟨b1, b2⟩, b3⟩, b4⟩ := hb
  obtain ⟨t, x1, x2, x3, rfl, hs, d1, d2, d3⟩ := tup3_dp hd
  obtain ⟨g, rfl, hg⟩ := grid_dp d1
  obtain ⟨c, rfl, hc⟩ := row_of_dp d2
  refine ⟨t, _, rfl, hs, rfl, _, _, rfl, _, _, rfl, _, _, rfl, rfl, hw _ _ _, ?_⟩
  refine ev_is (ev_neD (d := dPts pts) (d' := dPts pts) (ed_p (ep_walk (K := K) (C := C) (E := E0) (est_of (ev_var (h1 _ _ _)) hg) (gok_by b1) (es_of (ev_var (h2 _ _ _)) hc) (cok_byB b2) b3 b4) fun _ _ _ z => z.dp) (ed_of (ev_var (h3 _ _ _)) d3) (shaped_ptsD _) (shaped_ptsD _)) (w := .bl false) (by rw [eqv_ptsD]; rfl) H1 (Ex.refl H1) Q q
end
/-! ### _law_numbers_right -/
def sp_l_numbers_right (TT : List NTab) : Sp := fun vs H Q _ => ∃ u : Unit, vs = [] ∧ TabsN TT H ∧ ∀ H1, ExtN H H1 → TabsN TT H1 → Q (.bl true) H1
def t_l_numbers_right (K : PySem.W.Frag) (C : Ad) (F : Fns11) (L : Lams11) (TT : List NTab) : TS := (tSeq (tAsg (tLst (tCons (tTup (tCons (tTup (tCons (tC (.int 1)) (tCons (tC (.int 1)) tNil))) (tCons (tLst (tCons (tC (.int 0)) tNil)) (tCons (tLst (tCons (tLst (tCons (tC (.int 4)) tNil)) tNil)) tNil)))) (tCons (tTup (tCons (tTup (tCons (tC (.int 2)) (tCons (tC (.int 2)) tNil))) (tCons (tLst (tCons (tC (.int 0)) (tCons (tC (.int 1)) (tCons (tC (.int 2)) (tCons (tC (.int 3)) tNil))))) (tCons (tLst (tCons (tLst (tCons (tC (.int 2)) (tCons (tC (.int 2)) tNil))) (tCons (tLst (tCons (tC (.int 2)) (tCons (tC (.int 2)) tNil))) tNil))) tNil)))) tNil))) (gName 0))
      (tSeq (tAsg (tOp rCat (tVar 0) (tLst (tCons (tTup (tCons (tTup (tCons (tC (.int 2)) (tCons (tC (.int 2)) tNil))) (tCons (tLst (tCons (tC (.int 0)) tNil)) (tCons (tLst (tCons (tLst (tCons (tC (.int 4)) (tCons (tC (.int 1)) tNil))) (tCons (tLst (tCons (tC (.int 1)) (tCons (tC (.int 0)) tNil))) tNil))) tNil)))) tNil))) (gName 0))
      (tSeq (tAsg (tOp rCat (tVar 0) (tLst (tCons (tTup (tCons (tTup (tCons (tC (.int 3)) (tCons (tC (.int 3)) tNil))) (tCons (tCall (sp_l_eight K) [] E0 tNil) (tCons (tLst (tCons (tLst (tCons (tC (.int 2)) (tCons (tC (.int 2)) (tCons (tC (.int 2)) tNil)))) (tCons (tLst (tCons (tC (.int 2)) (tCons (tC (.int 4)) (tCons (tC (.int 2)) tNil)))) (tCons (tLst (tCons (tC (.int 2)) (tCons (tC (.int 2)) (tCons (tC (.int 2)) tNil)))) tNil)))) tNil)))) tNil))) (gName 0))
      (tSeq (tAsg (tOp rCat (tVar 0) (tLst (tCons (tTup (tCons (tTup (tCons (tC (.int 2)) (tCons (tC (.int 2)) tNil))) (tCons (tLst (tCons (tC (.int 0)) (tCons (tC (.int 3)) tNil))) (tCons (tLst (tCons (tLst (tCons (tC (.int 4)) (tCons (tC (.int 2)) tNil))) (tCons (tLst (tCons (tC (.int 2)) (tCons (tC (.int 4)) tNil))) tNil))) tNil)))) tNil))) (gName 0))
      (tSeq (tAsg (tOp rCat (tVar 0) (tLst (tCons (tTup (tCons (tTup (tCons (tC (.int 1)) (tCons (tC (.int 6)) tNil))) (tCons (tLst (tCons (tC (.int 0)) (tCons (tC (.int 1)) (tCons (tC (.int 3)) tNil)))) (tCons (tLst (tCons (tLst (tCons (tC (.int 3)) (tCons (tC (.int 3)) (tCons (tC (.int 2)) (tCons (tC (.int 4)) (tCons (tC (.int 1)) (tCons (tC (.int 0)) tNil))))))) tNil)) tNil)))) tNil))) (gName 0))
      (tSeq (tAsg (tOp rCat (tVar 0) (tLst (tCons (tTup (tCons (tTup (tCons (tC (.int 6)) (tCons (tC (.int 1)) tNil))) (tCons (tLst (tCons (tC (.int 5)) tNil)) (tCons (tLst (tCons (tLst (tCons (tC (.int 0)) tNil)) (tCons (tLst (tCons (tC (.int 0)) tNil)) (tCons (tLst (tCons (tC (.int 0)) tNil)) (tCons (tLst (tCons (tC (.int 0)) tNil)) (tCons (tLst (tCons (tC (.int 1)) tNil)) (tCons (tLst (tCons (tC (.int 4)) tNil)) tNil))))))) tNil)))) tNil))) (gName 0))
      (tSeq (tAsg (tOp rCat (tVar 0) (tLst (tCons (tTup (tCons (tTup (tCons (tC (.int 3)) (tCons (tC (.int 3)) tNil))) (tCons (tLst (tCons (tC (.int 4)) tNil)) (tCons (tLst (tCons (tLst (tCons (tC (.int 0)) (tCons (tC (.int 1)) (tCons (tC (.int 0)) tNil)))) (tCons (tLst (tCons (tC (.int 1)) (tCons (tC (.int 4)) (tCons (tC (.int 1)) tNil)))) (tCons (tLst (tCons (tC (.int 0)) (tCons (tC (.int 1)) (tCons (tC (.int 0)) tNil)))) tNil)))) tNil)))) tNil))) (gName 0))
      (tSeq (tIfS (tB (tCB (rAny K) (tCons (tLc (iList K (tVar 0)) (gTup K 3 (gCons (gName 3) (gCons (gName 4) (gCons (gName 5) gNil)))) tYes (tOp (rNeD K) (tCall (sp_numbers K C) [] E0 (tCons (tVar 3) (tCons (tVar 4) tNil))) (tVar 5)) [3, 4, 5]) tNil))) (tRet (tC (.bl false))) tNext)
      (tSeq (tAsg (tLst (tCons (tTup (tCons (tTup (tCons (tC (.int 1)) (tCons (tC (.int 1)) tNil))) (tCons (tLst (tCons (tC (.int 0)) tNil)) (tCons (tLst (tCons (tTup (tCons (tC (.int 0)) (tCons (tC (.int 0)) tNil))) (tCons (tTup (tCons (tC (.int 0)) (tCons (tC (.int 1)) tNil))) (tCons (tTup (tCons (tC (.int 1)) (tCons (tC (.int 1)) tNil))) (tCons (tTup (tCons (tC (.int 1)) (tCons (tC (.int 0)) tNil))) tNil))))) tNil)))) tNil)) (gName 1))
      (tSeq (tAsg (tOp rCat (tVar 1) (tLst (tCons (tTup (tCons (tTup (tCons (tC (.int 2)) (tCons (tC (.int 2)) tNil))) (tCons (tLst (tCons (tC (.int 0)) (tCons (tC (.int 1)) (tCons (tC (.int 2)) (tCons (tC (.int 3)) tNil))))) (tCons (tLst (tCons (tTup (tCons (tC (.int 0)) (tCons (tC (.int 0)) tNil))) (tCons (tTup (tCons (tC (.int 0)) (tCons (tC (.int 1)) tNil))) (tCons (tTup (tCons (tC (.int 0)) (tCons (tC (.int 2)) tNil))) (tCons (tTup (tCons (tC (.int 1)) (tCons (tC (.int 2)) tNil))) (tCons (tTup (tCons (tC (.int 2)) (tCons (tC (.int 2)) tNil))) (tCons (tTup (tCons (tC (.int 2)) (tCons (tC (.int 1)) tNil))) (tCons (tTup (tCons (tC (.int 2)) (tCons (tC (.int 0)) tNil))) (tCons (tTup (tCons (tC (.int 1)) (tCons (tC (.int 0)) tNil))) tNil))))))))) tNil)))) tNil))) (gName 1))
      (tSeq (tAsg (tOp rCat (tVar 1) (tLst (tCons (tTup (tCons (tTup (tCons (tC (.int 2)) (tCons (tC (.int 2)) tNil))) (tCons (tLst (tCons (tC (.int 1)) (tCons (tC (.int 2)) (tCons (tC (.int 3)) tNil)))) (tCons (tLst (tCons (tTup (tCons (tC (.int 0)) (tCons (tC (.int 1)) tNil))) (tCons (tTup (tCons (tC (.int 0)) (tCons (tC (.int 2)) tNil))) (tCons (tTup (tCons (tC (.int 1)) (tCons (tC (.int 2)) tNil))) (tCons (tTup (tCons (tC (.int 2)) (tCons (tC (.int 2)) tNil))) (tCons (tTup (tCons (tC (.int 2)) (tCons (tC (.int 1)) tNil))) (tCons (tTup (tCons (tC (.int 2)) (tCons (tC (.int 0)) tNil))) (tCons (tTup (tCons (tC (.int 1)) (tCons (tC (.int 0)) tNil))) (tCons (tTup (tCons (tC (.int 1)) (tCons (tC (.int 1)) tNil))) tNil))))))))) tNil)))) tNil))) (gName 1))
      (tSeq (tAsg (tOp rCat (tVar 1) (tLst (tCons (tTup (tCons (tTup (tCons (tC (.int 6)) (tCons (tC (.int 6)) tNil))) (tCons (tLst (tCons (tC (.int 35)) tNil)) (tCons (tLst (tCons (tTup (tCons (tC (.int 5)) (tCons (tC (.int 5)) tNil))) (tCons (tTup (tCons (tC (.int 5)) (tCons (tC (.int 6)) tNil))) (tCons (tTup (tCons (tC (.int 6)) (tCons (tC (.int 6)) tNil))) (tCons (tTup (tCons (tC (.int 6)) (tCons (tC (.int 5)) tNil))) tNil))))) tNil)))) tNil))) (gName 1))
      (tSeq (tAsg (tOp rCat (tVar 1) (tLst (tCons (tTup (tCons (tTup (tCons (tC (.int 2)) (tCons (tC (.int 3)) tNil))) (tCons (tLst (tCons (tC (.int 2)) (tCons (tC (.int 4)) (tCons (tC (.int 5)) tNil)))) (tCons (tLst (tCons (tTup (tCons (tC (.int 0)) (tCons (tC (.int 2)) tNil))) (tCons (tTup (tCons (tC (.int 0)) (tCons (tC (.int 3)) tNil))) (tCons (tTup (tCons (tC (.int 1)) (tCons (tC (.int 3)) tNil))) (tCons (tTup (tCons (tC (.int 2)) (tCons (tC (.int 3)) tNil))) (tCons (tTup (tCons (tC (.int 2)) (tCons (tC (.int 2)) tNil))) (tCons (tTup (tCons (tC (.int 2)) (tCons (tC (.int 1)) tNil))) (tCons (tTup (tCons (tC (.int 1)) (tCons (tC (.int 1)) tNil))) (tCons (tTup (tCons (tC (.int 1)) (tCons (tC (.int 2)) tNil))) tNil))))))))) tNil)))) tNil))) (gName 1))
      (tSeq (tIfS (tB (tCB (rAny K) (tCons (tLc (iList K (tVar 1)) (gTup K 3 (gCons (gName 3) (gCons (gName 4) (gCons (gName 5) gNil)))) tYes (tOp (rNeD K) (tCall (sp_walk K C) [] E0 (tCons (tVar 3) (tCons (tVar 4) tNil))) (tVar 5)) [3, 4, 5]) tNil))) (tRet (tC (.bl false))) tNext)
      (tSeq (tIfS (tTest (tOp rNe (tCB (rLenS K) (tCons (tCall (sp_walk K C) [] E0 (tCons (tTup (tCons (tC (.int 6)) (tCons (tC (.int 6)) tNil))) (tCons (tLstRg (tRg1 (tC (.int 36)))) tNil))) tNil)) (tC (.int 24)))) (tRet (tC (.bl false))) tNext)
      (tSeq (tAsg (tLst (tCons (tLst (tCons (tC (.int 0)) (tCons (tC (.int 4)) tNil))) (tCons (tCall (sp_l_eight K) [] E0 tNil) (tCons (tLst (tCons (tC (.int 0)) (tCons (tC (.int 2)) tNil))) (tCons (tLst (tCons (tC (.int 1)) (tCons (tC (.int 2)) (tCons (tC (.int 3)) (tCons (tC (.int 5)) (tCons (tC (.int 6)) (tCons (tC (.int 7)) (tCons (tC (.int 8)) tNil)))))))) tNil))))) (gName 2))
      (tRet (tOp (rEqD K) (tLc (iList K (tVar 2)) (gName 6) tYes (tCall (sp_l_word K C F L) [] E0 (tCons (tLamb TT (Lam0.at L.lm_l_numbers_right_0)) (tCons (tVar 6) tNil))) [6]) (tOp rRep (tLst (tCons (tC (.str "ring")) tNil)) (tC (.int 4)))))))))))))))))))))
theorem ex_N {H H1 : Hp} (e : Ex H H1) : ExtN H H1 := ExtN.of e
theorem NoRingC.monoN {K : PySem.W.Frag} {H H' : Hp} {v : V} (e : ExtN H H') (h : NoRingC K H v) : NoRingC K H' v := by
  obtain ⟨a, cs, rfl, h1, h2⟩ := h
  exact ⟨a, cs, rfl, sql_N e h1, h2⟩
theorem NoRingC.mono {K : PySem.W.Frag} : Mono (NoRingC K) := fun _ _ _ e h => h.monoN (ex_N e)
def noRB (cs : List Int) : Bool := cokB 3 3 cs && !isRing 3 3 cs
theorem ep_noR {K : PySem.W.Frag} {σ : L2.St} {H : Hp} {te : TE} {cs : List Int} (h : EvD K te σ H (dI cs)) (hb : noRB cs = true) : EvP te σ H (fun _ v H2 => NoRingC K H2 v) := fun H1 e Q q => h H1 e _ fun v H2 e2 h2 => by
  simp only [noRB, Bool.and_eq_true, Bool.not_eq_true'] at hb
  obtain ⟨r, rfl, hr⟩ := row_of_dp h2
  exact q _ H2 e2 ⟨r, cs, rfl, hr, cok_byB hb.1, hb.2⟩
/-! ### words, where lambdas are made -/
section
variable {K : PySem.W.Frag} {C : Ad} {F : Fns11} {L : Lams11} {TT : List NTab} {σ : L2.St} {H : Hp} {Q : VK} {wd : Str} {c : Addr} {x : V} {i : Nat} {te : TE} {g : TG} {P : Hp → V → Prop} {vs : List Nat}
theorem tabs_ex {H1 : Hp} (h : TabsN TT H) (e : Ex H H1) : TabsN TT H1 := h.ext e
theorem word_lam {mk : Lam0} {sp : Sp} (hR : ∀ c, RLam K C L (mk.at c) sp) (hw : WdOf C c wd) (hr : ∀ H2, ExtN H H2 → Raises sp c x H2) (hT : TabsN TT H) (hi : σ[i]? = some (some x)) (q : ∀ H2, ExtN H H2 → TabsN TT H2 → Q (.str wd) H2) : tCall (sp_l_word K C F L) [] E0 (tCons (tLamb TT (Lam0.at mk)) (tCons (tVar i) tNil)) σ H Q :=
  ⟨hT, fun f c' H2 eN _ T2 _ f1 c1 => ⟨x, hi, f, x, c, wd, rfl, hw, .inr ⟨mk.at c', f1, rfl, c1, sp, hR c', hr H2 eN⟩, fun H3 e3 => q H3 (eN.trans (ex_N e3)) (tabs_ex T2 e3)⟩⟩
theorem ev_wordK {f : Addr} {sp : Sp} (hR : RWord K C F f sp) (hw : WdOf C c wd) (hr : Raises sp c x H) (hi : σ[i]? = some (some x)) : Ev (tCall (sp_l_word K C F L) [] E0 (tCons (tC (.ref f)) (tCons (tVar i) tNil))) σ H (.str wd) := fun H1 e Q q =>
  ⟨x, hi, f, x, c, wd, rfl, hw, .inl ⟨sp, hR, fun H2 Q2 E2 e2 h2 => hr H2 Q2 E2 (e.trans e2) h2⟩, fun H2 e2 => q H2 e2⟩
theorem lay_wds (w : Str) (hw : PyData.canLay0 (.str w) = true) : ∀ n, PyData.canLayAll0 (List.replicate n (PyData.str w)) = true
  | 0 => rfl
  | n + 1 => by rw [List.replicate_succ, PyData.canLayAll0, hw, lay_wds w hw n]; rfl
theorem depth_wds (w : Str) : ∀ n, PyData.depthAll (List.replicate n (PyData.str w)) = 0
  | 0 => by simp [PyData.depthAll]
  | n + 1 => by rw [List.replicate_succ]; simp [PyData.depthAll, PyData.depth, depth_wds w n]
theorem shaped_wds {w : Str} (hw : PyData.canLay0 (.str w) = true) (n : Nat) : SeqAt.shaped (wdsD w n) = true := shaped_of_len (lay_wds w hw n) (by rw [depth_wds]; decide)
theorem eqv_wds {w : Str} (hw : PyData.canLay0 (.str w) = true) (n : Nat) : PyData.eqv (wdsD w n) (wdsD w n) = true := SeqAt.eqv_refl _ (by unfold wdsD; rw [PyData.canLay0]; exact lay_wds w hw n)
/-- [the word of each x] == [word] * n, at the end of a heap where lambdas were made -/
theorem wordsEqN {a : Addr} {xs : List V} {n m : Nat} (mN : ∀ H H' v, ExtN H H' → P H v → P H' v) (hT : TabsN TT H) (hs : σ[n]? = some (some (.ref a))) (ha : SqL K H a xs) (hP : ∀ x ∈ xs, P H x) (hm : xs.length = m) (hz : m ≤ 90) (hw : PyData.canLay0 (.str wd) = true)
    (hx : ∀ x H1, ExtN H H1 → TabsN TT H1 → P H1 x → ∀ Q : VK, (∀ H2, ExtN H1 H2 → TabsN TT H2 → Q (.str wd) H2) → g x (wipe σ vs) H1 fun σ2 H2 => wipe σ2 vs = wipe σ vs ∧ te σ2 H2 Q)
    (q : ∀ H1, ExtN H H1 → TabsN TT H1 → Q (.bl true) H1) : tOp (rEqD K) (tLc (iList K (tVar n)) g tYes te vs) (tOp rRep (tLst (tCons (tC (.str wd)) tNil)) (tC (.int (m : Int)))) σ H Q := by
  refine lcN (n := n) (u := .str wd) mN hT rfl hs ha hP (by omega) hx fun D H1 e1 t1 hD => ?_
  rw [hm] at hD
  refine el_repW (σ := σ) (H := H1) (w := wd) hz H1 (Ex.refl H1) _ fun p H2 _ e2 h2 => ?_
  refine ⟨wdsD wd m, wdsD wd m, dp_wds (sq_of (e2 _ _ hD)), dp_wds (sq_of h2), shaped_wds hw m, shaped_wds hw m, ?_⟩
  rw [eqv_wds hw]
  exact q H2 (e1.trans (ex_N e2)) (tabs_ex t1 e2)
theorem wordsNeN {a : Addr} {xs : List V} {n m : Nat} (mN : ∀ H H' v, ExtN H H' → P H v → P H' v) (hT : TabsN TT H) (hs : σ[n]? = some (some (.ref a))) (ha : SqL K H a xs) (hP : ∀ x ∈ xs, P H x) (hm : xs.length = m) (hz : m ≤ 90) (hw : PyData.canLay0 (.str wd) = true)
    (hx : ∀ x H1, ExtN H H1 → TabsN TT H1 → P H1 x → ∀ Q : VK, (∀ H2, ExtN H1 H2 → TabsN TT H2 → Q (.str wd) H2) → g x (wipe σ vs) H1 fun σ2 H2 => wipe σ2 vs = wipe σ vs ∧ te σ2 H2 Q)
    (q : ∀ H1, ExtN H H1 → TabsN TT H1 → Q (.bl false) H1) : tOp (rNeD K) (tLc (iList K (tVar n)) g tYes te vs) (tOp rRep (tLst (tCons (tC (.str wd)) tNil)) (tC (.int (m : Int)))) σ H Q := by
  refine lcN (n := n) (u := .str wd) mN hT rfl hs ha hP (by omega) hx fun D H1 e1 t1 hD => ?_
  rw [hm] at hD
  refine el_repW (σ := σ) (H := H1) (w := wd) hz H1 (Ex.refl H1) _ fun p H2 _ e2 h2 => ?_
  refine ⟨wdsD wd m, wdsD wd m, dp_wds (sq_of (e2 _ _ hD)), dp_wds (sq_of h2), shaped_wds hw m, shaped_wds hw m, ?_⟩
  rw [eqv_wds hw]
  exact q H2 (e1.trans (ex_N e2)) (tabs_ex t1 e2)
/-- the same, of defs: nothing old is changed -/
theorem ev_wordsEq {tl : TE} {n m : Nat} (mo : Mono P) (h : EvP tl σ H (fun _ v H2 => InAll P m H2 v)) (hz : m ≤ 90) (hw : PyData.canLay0 (.str wd) = true) (hx : ∀ x H1, Ex H H1 → P H1 x → ∀ Q : VK, (∀ H2, Ex H1 H2 → Q (.str wd) H2) → g x (wipe σ vs) H1 fun σ2 H2 => wipe σ2 vs = wipe σ vs ∧ te σ2 H2 Q) :
    Ev (tOp (rEqD K) (tLc (iList K tl) g tYes te vs) (tOp rRep (tLst (tCons (tC (.str wd)) tNil)) (tC (.int (m : Int))))) σ H (.bl true) :=
  ev_is (ev_eqD (d := wdsD wd m) (d' := wdsD wd m) (ed_wds (el_lcP (K := K) mo h (by omega) hx)) (ed_wds (el_repW hz)) (shaped_wds hw m) (shaped_wds hw m)) (by rw [eqv_wds hw])
theorem ev_wordsNe {tl : TE} {n m : Nat} (mo : Mono P) (h : EvP tl σ H (fun _ v H2 => InAll P m H2 v)) (hz : m ≤ 90) (hw : PyData.canLay0 (.str wd) = true) (hx : ∀ x H1, Ex H H1 → P H1 x → ∀ Q : VK, (∀ H2, Ex H1 H2 → Q (.str wd) H2) → g x (wipe σ vs) H1 fun σ2 H2 => wipe σ2 vs = wipe σ vs ∧ te σ2 H2 Q) :
    Ev (tOp (rNeD K) (tLc (iList K tl) g tYes te vs) (tOp rRep (tLst (tCons (tC (.str wd)) tNil)) (tC (.int (m : Int))))) σ H (.bl false) :=
  ev_is (ev_neD (d := wdsD wd m) (d' := wdsD wd m) (ed_wds (el_lcP (K := K) mo h (by omega) hx)) (ed_wds (el_repW hz)) (shaped_wds hw m) (shaped_wds hw m)) (by rw [eqv_wds hw]; rfl)
end
/-- len(walk(..)) -/
theorem ev_lenWalk {K : PySem.W.Frag} {σ : L2.St} {H : Hp} {te : TE} {pts : List (Int × Int)} (h : EvP te σ H (NewPts K pts)) : Ev (tCB (rLenS K) (tCons te tNil)) σ H (.int (pts.length : Int)) := fun H1 e Q q => h H1 e _ fun v H2 e2 hv => by
  obtain ⟨p, qs, rfl, _, h2, h3⟩ := hv
  have := ev_lenS (K := K) (σ := []) (H := H2) (ta := tC (.ref p)) (es_of ev_c (sq_of h2))
  rw [List.length_map, Paired.length h3] at this
  exact this H2 (Ex.refl H2) Q fun H3 e3 => q H3 (e2.trans e3)

/-! ### k10: _law_cells_right, _law_apart_right -/
open LamX NdefX
theorem judged_whole {h w : Nat} {cs : List Int} (p : ¬ (spread h w (cs.headD 0) cs).length < cs.length ∧ firstInner h w cs = none) : judgedM h w cs = .ring := by
  unfold judgedM
  rw [if_neg p.1, p.2]
theorem row_facts {h w m : Nat} (h3 : 3 ≤ h) (h6 : h ≤ 6) (w1 : 1 ≤ w) (w6 : w ≤ 6) (m1 : 1 ≤ m) (mw : m ≤ w) : COk h w (rowC 0 m) ∧ COk h w (rowC w m) ∧ isRing h w (rowC 0 m) = true ∧ isRing h w (rowC w m) = true ∧ (∃ p, walkOf h w (rowC 0 m) = some p) ∧ (∃ p, walkOf h w (rowC w m) = some p) ∧ judgedM h w (rowC 0 m) = .ring ∧ ∀ r ∈ numbersOf h w (rowC 0 m), 99 ∉ r := by
  have gk : GOk h w := ⟨by omega, h6, w1, w6⟩
  obtain ⟨a1, a2⟩ := rowC_whole (o := 0) gk (by omega) (.inl rfl) m1 mw
  obtain ⟨b1, b2⟩ := rowC_whole (o := w) gk (by omega) (.inr rfl) m1 mw
  obtain ⟨_, _, p1⟩ := walk_ring gk a1 (ring_by a2)
  obtain ⟨_, _, p2⟩ := walk_ring gk b1 (ring_by b2)
  exact ⟨a1, b1, ring_by a2, ring_by b2, ⟨_, p1⟩, ⟨_, p2⟩, judged_whole a2, fun r hr z => by have := numbers_le hr 99 z; omega⟩
theorem atI_paired {α β : Type} {F : α → β → Prop} {l : List α} {m : List β} {i : Int} {b : β} (h : Paired F l m) (hx : atI m i = some b) : ∃ a, atI l i = some a ∧ F a b ∧ a ∈ l := by
  have hl := Paired.length h
  unfold atI at hx ⊢
  obtain ⟨j, hj, hb⟩ := Option.bind_eq_some_iff.mp hx
  have hjl : j < l.length := by
    have := (List.getElem?_eq_some_iff.mp hb).1
    omega
  obtain ⟨b', hb', hF⟩ := paired_get h (List.getElem?_eq_getElem hjl)
  rw [hb] at hb'
  cases hb'
  exact ⟨l[j], by rw [hl, hj]; exact List.getElem?_eq_getElem hjl, hF, List.getElem_mem hjl⟩
theorem atI_map {α β : Type} {l : List α} {i : Int} {a : α} (f : α → β) (h : atI l i = some a) : atI (l.map f) i = some (f a) := by
  unfold atI at h ⊢
  rw [List.length_map]
  obtain ⟨j, hj, hb⟩ := Option.bind_eq_some_iff.mp h
  rw [hj]
  show (l.map f)[j]? = _
  rw [List.getElem?_map, hb]
  rfl
theorem atI_end {α : Type} {l : List α} (h : l ≠ []) : ∃ a, atI l (-1) = some a ∧ a ∈ l := by
  refine ⟨l.getLast h, ?_, List.getLast_mem h⟩
  have e := List.dropLast_concat_getLast h
  have z := atI_last l.dropLast (l.getLast h)
  rw [e] at z
  exact z
section
variable {K : PySem.W.Frag} {C : Ad} {L : Lams10} {TT : List NTab} {σ : L2.St} {H : Hp} {ta tb te : TE} {tr : TA} {D : Ends} {tz : TS} {xs ys : List V}
theorem q_tupLL {i j : Nat} (h : EvL ta σ H xs) (h' : EvL tb σ H ys) (k : ∀ p r H1, H p = none → H r = none → Ex H H1 → H1 p = some (.lst xs) → H1 r = some (.lst ys) → tz D ((σ.set i (some (.ref p))).set j (some (.ref r))) H1) :
    tSeq (tAsg (tTup (tCons ta (tCons tb tNil))) (gTup K 2 (gCons (gName i) (gCons (gName j) gNil)))) tz D σ H :=
  h H (Ex.refl H) _ fun p H1 hp e h1 => h' H1 e _ fun r H2 hr e2 h2 => ⟨sz_of (by simp), fun q hq => ⟨q, _, rfl, st_of upd_same, rfl, _, _, rfl, _, _, rfl, rfl, k p r _ hp (fresh_back e hr) ((e.trans e2).trans (Ex.new hq)) (Ex.new hq _ _ (e2 _ _ h1)) (Ex.new hq _ _ h2)⟩⟩
theorem el_row {j : Nat} {vs : List Nat} {n : Nat} (o : Nat) (h : EvA tr σ H [.int (n : Int)]) (hn : n ≤ 40000) (hw : ∀ x, wipe ((wipe σ vs).set j (some x)) vs = wipe σ vs)
    (he : ∀ (i : Nat) H1, Ex H H1 → i < n → Ev te ((wipe σ vs).set j (some (.int (i : Int)))) H1 (.int ((o : Int) + (i : Int)))) : EvL (tLc (iRng1 tr) (gName j) tYes te vs) σ H ((rowC o n).map V.int) := by
  have z := el_lcR (t := tYes) (te := te) (fun _ => true) (fun i => .int ((o : Int) + (i : Int))) h hn hw (fun _ _ _ _ => et_yes) (fun i H1 e hi _ => he i H1 e hi)
  rw [filter_yes] at z
  unfold rowC
  rw [List.map_map]
  exact z
theorem q_door {mk : Lam0} {cl : List (Str × Addr)} {fr : List Str} {js : List Nat} {spl : List (Option V) → Sp} {a b : Addr} {xs ys : List Int} {gg : List Int → List PyData} (hR : ∀ c, RDoor K C L (mk.atc cl c) fr spl) (tb : TabsN TT H) (h5 : σ[5]? = some (some (.ref a))) (h6 : σ[6]? = some (some (.ref b))) (ha : SqL K H a (xs.map V.int)) (hb : SqL K H b (ys.map V.int)) (hl : xs.length = ys.length) (hz : xs.length ≤ 1000) (hA : ∀ H1, ExtN H H1 → Asks K (spl (js.map (NdefX.slotAt σ))) [xs, ys] gg H1) (k : ∀ H1, ExtN H H1 → TabsN TT H1 → tz D σ H1) :
    tSeq (tIfS (tNot (tB (tCallL (fun σ => ⟨cl, fr, js.map (NdefX.slotAt σ)⟩) (sp_l_door_right K C L) E0 (tCons (tLamb TT (Lam0.atc mk cl)) (tCons (tVar 5) (tCons (tVar 6) tNil)))))) (tRet (tC (.bl false))) tNext) tz D σ H :=
  ⟨tb, fun f c' H1 eN _ T1 _ f1 c1 => ⟨.ref a, h5, .ref b, h6, f, a, b, rfl, mk.atc cl c', spl, xs, ys, gg, f1, rfl, c1, hR c', sql_N eN ha, sql_N eN hb, hl, hz, hA H1 eN, fun H2 e2 => ⟨true, rfl, iteF (k H2 (eN.trans (ex_N e2)) (tabs_ex T1 e2))⟩⟩⟩
theorem ev_isiP1 {c e : Addr} {fs : List (Str × V)} {b : Bool} (ha : EvP ta σ H (NewI c fs)) (ci : Ci K c) (k : PySem.W.kitOne K (.ref c) (.ref e) = some b) : Ev (tCB (rIsi K) (tCons ta (tCons (tC (.ref e)) tNil))) σ H (.bl b) := fun H1 e1 Q q => ha H1 e1 _ fun v H2 e2 hv => by
  obtain ⟨p, dx, rfl, _, h2⟩ := hv
  exact (ev_isiC (K := K) (σ := σ) (ta := tC (.ref p)) ev_c h2 ci k) H2 (Ex.refl H2) Q fun H3 e3 => q H3 (e2.trans e3)
theorem es_ixLL {nss : List (List Int)} {i : Int} {ns : List Int} (ha : EvP ta σ H (fun H1 v H2 => NewLL H1 v H2 (ints2 nss))) (hb : Ev tb σ H (.int i)) (hx : atI nss i = some ns) : EvS K (tOp (rIxL K) ta tb) σ H (ns.map V.int) := fun H1 e1 Q q => ha H1 e1 _ fun v H2 e2 hv => hb H2 (e1.trans e2) _ fun H3 e3 => by
  obtain ⟨p, rfl, hp, rs, h1, h2⟩ := hv.rows (K := K)
  obtain ⟨r, hr1, hr2, _⟩ := atI_paired h2 hx
  exact ⟨p, rs.map V.ref, i, .ref r, rfl, rfl, ex_l e3 h1, atI_map V.ref hr1, q r H3 (e2.trans e3) (ex_l e3 hr2)⟩
end
def sp_l_cells_right (TT : List NTab) : Sp := fun vs H Q _ => ∃ h w m : Nat, vs = [.int (h : Int), .int (w : Int), .int (m : Int), .int 0] ∧ (3 ≤ h ∧ h ≤ 6 ∧ 1 ≤ w ∧ w ≤ 6 ∧ 1 ≤ m ∧ m ≤ w) ∧ TabsN TT H ∧ ∀ H1, TabsN TT H1 → Q (.bl true) H1
def t_l_cells_right (K : PySem.W.Frag) (C : Ad) (L : Lams10) (TT : List NTab) (cl0 cl1 cl2 : List (Str × Addr)) : TS := (tSeq (tAsg (tTup (tCons (tVar 0) (tCons (tVar 1) tNil))) (gName 4))
      (tSeq (tAsg (tTup (tCons (tLc (iRng1 (tCons (tVar 2) tNil)) (gName 8) tYes (tOp oAdd (tVar 3) (tVar 8)) [8]) (tCons (tLc (iRng1 (tCons (tVar 2) tNil)) (gName 8) tYes (tOp oAdd (tOp oAdd (tVar 3) (tVar 1)) (tVar 8)) [8]) tNil))) (gTup K 2 (gCons (gName 5) (gCons (gName 6) gNil))))
      (tSeq (tIfS (tNot (tB (tCallL (fun σ => ⟨cl0, ["_law_grid"], ([4] : List Nat).map (NdefX.slotAt σ)⟩) (sp_l_door_right K C L) E0 (tCons (tLamb TT (Lam0.atc L.lm_l_cells_right_0 cl0)) (tCons (tVar 5) (tCons (tVar 6) tNil)))))) (tRet (tC (.bl false))) tNext)
      (tSeq (tIfS (tNot (tB (tCB (rIsi K) (tCons (tCall (sp_judged K C) [] E0 (tCons (tVar 4) (tCons (tVar 5) tNil))) (tCons (tC (.ref C.cRing)) tNil))))) (tRet (tC (.bl false))) tNext)
      (tSeq (tIfS (tNot (tB (tCallL (fun σ => ⟨cl1, ["_law_grid"], ([4] : List Nat).map (NdefX.slotAt σ)⟩) (sp_l_door_right K C L) E0 (tCons (tLamb TT (Lam0.atc L.lm_l_cells_right_1 cl1)) (tCons (tVar 5) (tCons (tVar 6) tNil)))))) (tRet (tC (.bl false))) tNext)
      (tSeq (tIfS (tNot (tB (tCallL (fun σ => ⟨cl2, ["_law_grid", "_law_one"], ([4, 5] : List Nat).map (NdefX.slotAt σ)⟩) (sp_l_door_right K C L) E0 (tCons (tLamb TT (Lam0.atc L.lm_l_cells_right_2 cl2)) (tCons (tVar 5) (tCons (tVar 6) tNil)))))) (tRet (tC (.bl false))) tNext)
      (tSeq (tAsg (tCall (sp_numbers K C) [] E0 (tCons (tVar 4) (tCons (tVar 5) tNil))) (gName 7))
      (tSeq (tDrop (tBM K "list" rAppend (tOp (rIxL K) (tVar 7) (tC (.int 0))) (tCons (tC (.int 9)) tNil)))
      (tSeq (tAsg (tC (.int 99)) (gSub (tOp (rIxL K) (tVar 7) (tUn oNeg (tC (.int 1)))) (tC (.int 0)) rSetL))
      (tRet (tAndV (tOp (rEqD K) (tCall (sp_numbers K C) [] E0 (tCons (tVar 4) (tCons (tVar 5) tNil))) (tCall (sp_numbers K C) [] E0 (tCons (tVar 4) (tCons (tCB (rListS K) (tCons (tVar 5) tNil)) tNil)))) (tOp (rIn K true) (tC (.int 99)) (tOp (rIxL K) (tCall (sp_numbers K C) [] E0 (tCons (tVar 4) (tCons (tVar 5) tNil))) (tUn oNeg (tC (.int 1))))))))))))))))
theorem pure_l_cells_right {K : PySem.W.Frag} {C : Ad} {L : Lams10} {TT : List NTab} {cl0 cl1 cl2 : List (Str × Addr)} {vs : List V} {H : Hp} {Q : VK} {E : XK} {D : Ends} (hD : D.rt = Q) {N : List Str} (hN : N.length = 9) (ci_Ring : Ci K C.cRing) (ki_Ring_Ring : PySem.W.kitOne K (.ref C.cRing) (.ref C.cRing) = some true) (h : sp_l_cells_right TT vs H Q E) : t_l_cells_right K C L TT cl0 cl1 cl2 D (start N vs) H := by
  obtain ⟨h, w, m, rfl, ⟨h3, h6, w1, w6, m1, mw⟩, tb, q⟩ := h
  subst hD
  rw [start_eq hN]
  change t_l_cells_right K C L TT cl0 cl1 cl2 D [some (.int (h : Int)), some (.int (w : Int)), some (.int (m : Int)), some (.int 0), none, none, none, none, none] H
  have gk : GOk h w := ⟨by omega, h6, w1, w6⟩
  obtain ⟨c0, c1, r0, r1, ⟨p0, wk0⟩, ⟨p1, wk1⟩, jr, n99⟩ := row_facts h3 h6 w1 w6 m1 mw
  refine q_asgU (i := 4) (eu_tup (ea_cons (ev_var rfl) (ea_cons (ev_var rfl) ea_nil)) (by simp)) fun g H1 hg e1 g1 => ?_
  change tSeq _ _ D [some (.int (h : Int)), some (.int (w : Int)), some (.int (m : Int)), some (.int 0), some (.ref g), none, none, none, none] H1
  refine q_tupLL (K := K) (i := 5) (j := 6) (xs := (rowC 0 m).map V.int) (ys := (rowC w m).map V.int) (el_row 0 (ea_cons (ev_var rfl) ea_nil) (by omega) (fun _ => rfl) fun i H2 _ _ => ev_op (x := .int 0) (ev_var rfl) (ev_var rfl) rv_I0) (el_row w (ea_cons (ev_var rfl) ea_nil) (by omega) (fun _ => rfl) fun i H2 _ _ => ev_is (ev_op (ev_op (x := .int 0) (ev_var rfl) (ev_var rfl) rv_I0) (ev_var rfl) rv_I0) (by rw [Int.zero_add])) fun a b H2 ha hb e2 a2 b2 => ?_
  change tSeq _ _ D [some (.int (h : Int)), some (.int (w : Int)), some (.int (m : Int)), some (.int 0), some (.ref g), some (.ref a), some (.ref b), none, none] H2
  have gs2 : SqT K H2 g [.int (h : Int), .int (w : Int)] := ex_t e2 (st_of g1)
  have as2 : SqL K H2 a ((rowC 0 m).map V.int) := sq_of a2
  have bs2 : SqL K H2 b ((rowC w m).map V.int) := sq_of b2
  have both : ∀ xs ∈ [rowC 0 m, rowC w m], COk h w xs := fun xs hx => by
    rcases List.mem_cons.mp hx with rfl | hx
    · exact c0
    · rcases List.mem_cons.mp hx with rfl | hx
      · exact c1
      · cases hx
  have both1 : ∀ xs ∈ [rowC 0 m, rowC w m], COk h w xs ∧ isRing h w xs = true ∧ ∃ pts, walkOf h w xs = some pts ∧ pts.length ≤ 1000 := fun xs hx => by
    rcases List.mem_cons.mp hx with rfl | hx
    · exact ⟨c0, r0, p0, wk0, Nat.le_trans (walkOf_len wk0) (by decide)⟩
    · rcases List.mem_cons.mp hx with rfl | hx
      · exact ⟨c1, r1, p1, wk1, Nat.le_trans (walkOf_len wk1) (by decide)⟩
      · cases hx
  have hl : (rowC 0 m).length = (rowC w m).length := by rw [rowC_len, rowC_len]
  have hz : (rowC 0 m).length ≤ 1000 := by rw [rowC_len]; omega
  refine q_door (K := K) (js := [4]) (a := a) (b := b) (fun c => .inl ⟨c, cl0, rfl, rfl, rfl⟩) (tabs_ex (tabs_ex tb e1) e2) rfl rfl as2 bs2 hl hz (fun H3 e3 => asks0 (K := K) (C := C) (sqt_N e3 gs2) gk both) fun H3 e3 t3 => ?_
  have gs3 := sqt_N e3 gs2
  have as3 := sql_N e3 as2
  have bs3 := sql_N e3 bs2
  have jd := ep_judged (K := K) (C := C) (E := E0) (σ := [some (.int (h : Int)), some (.int (w : Int)), some (.int (m : Int)), some (.int 0), some (.ref g), some (.ref a), some (.ref b), none, none]) (H := H3) (ta := tVar 4) (tb := tVar 5) (est_of (ev_var rfl) gs3) gk (es_of (ev_var rfl) as3) c0
  rw [jr] at jd
  refine q_when (b := false) (et_is (et_not (et_B (ev_isiP1 (K := K) jd ci_Ring ki_Ring_Ring))) rfl) (fun z => nomatch z) fun _ H4 e4 => ?_
  have gs4 := ex_t e4 gs3
  have as4 := ex_l e4 as3
  have bs4 := ex_l e4 bs3
  refine q_door (K := K) (js := [4]) (a := a) (b := b) (fun c => .inr (.inl ⟨c, cl1, rfl, rfl, rfl⟩)) (tabs_ex t3 e4) rfl rfl as4 bs4 hl hz (fun H5 e5 => asks1 (K := K) (C := C) (sqt_N e5 gs4) gk both1) fun H5 e5 t5 => ?_
  have gs5 := sqt_N e5 gs4
  have as5 := sql_N e5 as4
  have bs5 := sql_N e5 bs4
  refine q_door (K := K) (js := [4, 5]) (a := a) (b := b) (fun c => .inr (.inr ⟨c, cl2, rfl, rfl, rfl⟩)) t5 rfl rfl as5 bs5 hl hz (fun H6 e6 => asks2 (K := K) (C := C) (sqt_N e6 gs5) gk (sql_N e6 as5) c0.1 hz both) fun H6 e6 t6 => ?_
  have gs6 := sqt_N e6 gs5
  have as6 := sql_N e6 as5
  refine q_asgP (i := 7) (ep_numbersS (K := K) (C := C) (E := E0) (est_of (ev_var rfl) gs6) gk (es_of (ev_var rfl) as6) c0) fun v H7 e7 hv => ?_
  obtain ⟨p, ps, rfl, hp, p7, hr⟩ := hv
  change tSeq _ _ D [some (.int (h : Int)), some (.int (w : Int)), some (.int (m : Int)), some (.int 0), some (.ref g), some (.ref a), some (.ref b), some (.ref p), none] H7
  have nl : (numbersOf h w (rowC 0 m)).length = h := rows_h
  have nn : ints2 (numbersOf h w (rowC 0 m)) ≠ [] := fun z => by
    have := congrArg List.length z
    unfold ints2 at this
    rw [List.length_map, nl] at this
    simp at this
    omega
  obtain ⟨x0, hx0, mx0⟩ : ∃ x0, atI (ints2 (numbersOf h w (rowC 0 m))) 0 = some x0 ∧ x0 ∈ ints2 (numbersOf h w (rowC 0 m)) := by
    cases hc : ints2 (numbersOf h w (rowC 0 m)) with
    | nil => exact absurd hc nn
    | cons x r => exact ⟨x, atI_nat (j := 0) rfl, List.mem_cons_self⟩
  obtain ⟨xl, hxl, mxl⟩ := atI_end nn
  obtain ⟨q0, a0, ⟨f0, v0⟩, m0⟩ := atI_paired hr hx0
  obtain ⟨ql, al, ⟨fl, vl⟩, ml⟩ := atI_paired hr hxl
  have isI : ∀ x ∈ ints2 (numbersOf h w (rowC 0 m)), ∃ ns : List Int, x = ns.map V.int ∧ ns.length = w := fun x hx => by
    unfold ints2 at hx
    obtain ⟨ns, hn, rfl⟩ := List.mem_map.mp hx
    exact ⟨ns, rfl, rows_w hn⟩
  obtain ⟨n0, rfl, ln0⟩ := isI x0 mx0
  obtain ⟨nL, rfl, lnL⟩ := isI xl mxl
  have pq : p ≠ q0 := ne_of p7 v0 (refs_ne_ints m0)
  have pl : p ≠ ql := ne_of p7 vl (refs_ne_ints ml)
  refine q_app (l := q0) (xs := n0.map V.int) (v := .int 9) v0 (ev_ixS (es_of (K := K) (ev_var rfl) (sq_of p7)) ev_c (atI_map V.ref a0)) ev_c (by rw [List.length_map]; omega) fun H8 e8 => ?_
  have p8 : (upd H8 q0 (.lst (n0.map V.int ++ [V.int 9]))) p = some (.lst (ps.map V.ref)) := by rw [upd_ne pq]; exact e8 _ _ p7
  obtain ⟨zs, hzs, lzs⟩ : ∃ zs : List V, (upd H8 q0 (.lst (n0.map V.int ++ [V.int 9]))) ql = some (.lst zs) ∧ 0 < zs.length := by
    by_cases hq : ql = q0
    · rw [hq]
      exact ⟨_, upd_same, by simp⟩
    · exact ⟨_, by rw [upd_ne hq]; exact e8 _ _ vl, by rw [List.length_map]; omega⟩
  have eb : Ex H6 (upd H8 q0 (.lst (n0.map V.int ++ [V.int 9]))) := Ex.mut (e7.trans e8) f0
  generalize upd H8 q0 (.lst (n0.map V.int ++ [V.int 9])) = G8 at *
  refine q_setL (l := ql) (xs := zs) (j := 0) (v := .int 99) hzs ev_c (ev_ixS (i := -1) (es_of (K := K) (ev_var rfl) (sq_of p8)) (ev_un ev_c ru_neg) (atI_map V.ref al)) ev_c lzs fun H9 e9 => ?_
  have ec : Ex H6 (upd H9 ql (.lst (zs.set 0 (.int 99)))) := Ex.mut (eb.trans e9) fl
  generalize upd H9 ql (.lst (zs.set 0 (.int 99))) = G9 at *
  have gs9 := ex_t ec gs6
  have as9 := ex_l ec as6
  obtain ⟨ns, hns, mns⟩ := atI_end (l := numbersOf h w (rowC 0 m)) (fun z => by rw [z] at nl; simp at nl; omega)
  exact s_ret (v := .bl true) (ev_is (ev_andV (a := true) (b := true) (ev_is (ev_eqD (d := dII (numbersOf h w (rowC 0 m))) (d' := dII (numbersOf h w (rowC 0 m))) (ed_p (ep_numbersS (K := K) (C := C) (E := E0) (est_of (ev_var rfl) gs9) gk (es_of (ev_var rfl) as9) c0) fun _ _ _ z => z.dp) (ed_p (ep_numbersS (K := K) (C := C) (E := E0) (est_of (ev_var rfl) gs9) gk (es_new (el_listS (es_of (K := K) (ev_var rfl) as9))) c0) fun _ _ _ z => z.dp) (shaped_rows _) (shaped_rows _)) (by rw [eqv_dII]; simp)) fun _ => ev_is (ev_notIn (K := K) ev_c (es_ixLL (K := K) (ep_numbersS (K := K) (C := C) (E := E0) (est_of (ev_var rfl) gs9) gk (es_of (ev_var rfl) as9) c0) (ev_un ev_c ru_neg) hns)) (by rw [decide_eq_false (n99 _ mns)]; rfl)) rfl) fun Hz ez => q Hz (tabs_ex (tabs_ex t6 ec) ez)

/-! ### k10: _law_copied, _law_apart_right -/
/-- new rows, each an object of its own -/
def NewLD (nss : List (List Int)) (H1 : Hp) (v : V) (H2 : Hp) : Prop := ∃ p ps, v = .ref p ∧ H1 p = none ∧ H2 p = some (.lst (ps.map V.ref)) ∧ Paired (fun (q : Addr) (ns : List Int) => H1 q = none ∧ H2 q = some (.lst (ns.map V.int))) ps nss ∧ ps.Nodup ∧ p ∉ ps
theorem paired_ints2 {F : Addr → List V → Prop} : ∀ {ps : List Addr} {nss : List (List Int)}, Paired (fun q (ns : List Int) => F q (ns.map V.int)) ps nss → Paired F ps (ints2 nss)
  | [], [], .nil => .nil
  | _ :: _, _ :: _, .cons h hs => .cons h (paired_ints2 hs)
theorem paired_two {F : Addr → List Int → Prop} : ∀ {bs : List (Addr × List Int)}, (∀ b ∈ bs, F b.1 b.2) → Paired F (bs.map (·.1)) (bs.map (·.2))
  | [], _ => .nil
  | b :: bs, h => .cons (h b List.mem_cons_self) (paired_two fun c m => h c (List.mem_cons_of_mem _ m))
theorem NewLD.ll {nss : List (List Int)} {H1 H2 : Hp} {v : V} (h : NewLD nss H1 v H2) : NewLL H1 v H2 (ints2 nss) := by
  obtain ⟨p, ps, rfl, hp, h2, hr, _⟩ := h
  exact ⟨p, ps, rfl, hp, h2, paired_ints2 (F := fun q xs => H1 q = none ∧ H2 q = some (.lst xs)) hr⟩
theorem NewLD.back {nss : List (List Int)} {H0 H1 H2 : Hp} {v : V} (e : Ex H0 H1) (h : NewLD nss H1 v H2) : NewLD nss H0 v H2 := by
  obtain ⟨p, ps, rfl, hp, h2, hr, hn, hm⟩ := h
  exact ⟨p, ps, rfl, fresh_back e hp, h2, Paired.mapP hr fun q ns z => ⟨fresh_back e z.1, z.2⟩, hn, hm⟩
/-- [list(row) for row in rows], each of its own -/
theorem ep_copyRowsD {K : PySem.W.Frag} {σ : L2.St} {H : Hp} {tl : TE} {j : Nat} {vs : List Nat} {a : Addr} {nss : List (List Int)} (h : Ev tl σ H (.ref a)) (hr : RowsAt K H a nss) (hz : nss.length ≤ 40000) (hw : ∀ x, wipe ((wipe σ vs).set j (some x)) vs = wipe σ vs) (hj : ∀ x : V, ((wipe σ vs).set j (some x))[j]? = some (some x)) :
    EvP (tLc (iList K tl) (gName j) tYes (tCB (rListS K) (tCons (tVar j) tNil)) vs) σ H (NewLD nss) := fun H0 e Q q => h H0 e _ fun H1 e1 => by
  obtain ⟨rs, h1, h2⟩ := hr.mono (e.trans e1)
  have ln : (rs.map V.ref).length = nss.length := by rw [List.length_map]; exact Paired.length h2
  refine ⟨a, rfl, ⟨_, h1⟩, fun Dl hD => lc_list (xs := rs.map V.ref) (fun n H' => H1 Dl = none ∧ Ex H1 H' ∧ ∃ bs : List (Addr × List Int), H' Dl = some (.lst (bs.map toV)) ∧ bs.map (·.2) = nss.take n ∧ (bs.map (·.1)).Nodup ∧ ∀ b ∈ bs, (H1 b.1 = none ∧ b.1 ≠ Dl) ∧ H' b.1 = some (.lst (b.2.map V.int))) ⟨hD, Ex.new hD, [], upd_same, rfl, List.nodup_nil, fun b hb => nomatch hb⟩ (fun i H' _ p => ex_l p.2.1 h1) (fun i x H' hi p => ?_) (fun H' p => ?_)⟩
  · rw [List.getElem?_map] at hi
    obtain ⟨r, hri, rfl⟩ := Option.map_eq_some_iff.mp hi
    obtain ⟨ns, hns, hs⟩ := paired_get h2 hri
    obtain ⟨p1, p2, bs, p3, p4, p6, p5⟩ := p
    have bl : bs.length ≤ nss.length := by
      have := congrArg List.length p4
      rw [List.length_map, List.length_take] at this
      omega
    refine ⟨hw _, ?_⟩
    show tCB (rListS K) (tCons (tVar j) tNil) _ H' _
    refine el_listS (K := K) (es_of (ev_var (hj _)) (ex_l p2 hs)) H' (Ex.refl H') _ fun q' H3 hq e3 h3 => ?_
    have ne : q' ≠ Dl := (ne_of_none p3 hq).symm
    refine ⟨_, e3 _ _ p3, sz_lt (by rw [List.length_map]; omega), p1, Ex.mut (p2.trans e3) p1, bs ++ [(q', ns)], ?_, ?_, ?_, fun b hb => ?_⟩
    · rw [upd_same, List.map_append]; rfl
    · rw [List.map_append, p4, take_snoc hns]; rfl
    · rw [List.map_append]
      refine List.nodup_append.mpr ⟨p6, by simp, fun x hx y hy => ?_⟩
      obtain ⟨b, hb, rfl⟩ := List.mem_map.mp hx
      have : y = q' := by simpa using hy
      rw [this]
      intro z
      rw [← z, (p5 b hb).2] at hq
      cases hq
    · rcases List.mem_append.mp hb with hb | hb
      · have z := p5 b hb
        refine ⟨z.1, ?_⟩
        rw [upd_ne z.1.2]
        exact e3 _ _ z.2
      · have : b = (q', ns) := by simpa using hb
        subst this
        exact ⟨⟨fresh_back p2 hq, ne⟩, by rw [upd_ne ne]; exact h3⟩
  · rw [ln, List.take_length] at p
    obtain ⟨p1, p2, bs, p3, rfl, p6, p5⟩ := p
    refine q _ H' (e1.trans p2) ⟨Dl, bs.map (·.1), rfl, fresh_back e1 p1, by rw [List.map_map]; exact p3, paired_two (F := fun q ns => H0 q = none ∧ H' q = some (.lst (ns.map V.int))) fun b hb => ⟨fresh_back e1 (p5 b hb).1.1, (p5 b hb).2⟩, p6, fun z => ?_⟩
    obtain ⟨b, hb, hz⟩ := List.mem_map.mp z
    exact (p5 b hb).1.2 hz
def sp_l_copied (K : PySem.W.Frag) : Sp := fun vs H Q _ => ∃ a nss, vs = [.ref a] ∧ RowsAt K H a nss ∧ nss.length ≤ 40000 ∧ RetP (NewLD nss) H Q
def t_l_copied (K : PySem.W.Frag) : TS := (tRet (tLc (iList K (tVar 0)) (gName 1) tYes (tCB (rListS K) (tCons (tVar 1) tNil)) [1]))
theorem pure_l_copied {K : PySem.W.Frag} {vs : List V} {H : Hp} {Q : VK} {E : XK} {D : Ends} (hD : D.rt = Q) {N : List Str} (hN : N.length = 2) (h : sp_l_copied K vs H Q E) : t_l_copied K D (start N vs) H := by
  obtain ⟨a, nss, rfl, h1, h2, q⟩ := h
  subst hD
  rw [start_eq hN]
  change t_l_copied K D [some (.ref a), none] H
  exact s_retP (ep_copyRowsD (K := K) (ev_var rfl) h1 h2 (fun _ => rfl) (fun _ => rfl)) fun v H1 e1 z => q v H1 e1 z
theorem ep_copied {K : PySem.W.Frag} {σ : L2.St} {H : Hp} {ta : TE} {E : XK} {a : Addr} {nss : List (List Int)} (ha : Ev ta σ H (.ref a)) (hr : RowsAt K H a nss) (hl : nss.length ≤ 40000) : EvP (tCall (sp_l_copied K) [] E (tCons ta tNil)) σ H (NewLD nss) := fun H1 e Q q =>
  ha H1 e _ fun H2 e2 => ⟨a, nss, rfl, hr.mono (e.trans e2), hl, fun v H3 e3 z => q v H3 (e2.trans e3) (z.back e2)⟩
def apartB (h w : Nat) : Bool := cokB h w [0, 2 * (w : Int)] && decide (judgedM h w [0, 2 * (w : Int)] = .split 0 (2 * (w : Int))) && !showsG h w [0, (w : Int)] (.split 0 (2 * (w : Int))) && showsG h w [0, 2 * (w : Int)] (.split 0 (2 * (w : Int)))
theorem aparts : ((List.range 4).all fun a => (List.range 6).all fun b => apartB (a + 3) (b + 1)) = true := by decide +kernel
theorem apart_facts {h w : Nat} (h3 : 3 ≤ h) (h6 : h ≤ 6) (w1 : 1 ≤ w) (w6 : w ≤ 6) : COk h w [0, 2 * (w : Int)] ∧ judgedM h w [0, 2 * (w : Int)] = .split 0 (2 * (w : Int)) ∧ showsG h w [0, (w : Int)] (.split 0 (2 * (w : Int))) = false ∧ showsG h w [0, 2 * (w : Int)] (.split 0 (2 * (w : Int))) = true := by
  have a := List.all_eq_true.mp aparts (h - 3) (List.mem_range.mpr (by omega))
  have b := List.all_eq_true.mp a (w - 1) (List.mem_range.mpr (by omega))
  rw [show h - 3 + 3 = h by omega, show w - 1 + 1 = w by omega] at b
  unfold apartB at b
  simp only [Bool.and_eq_true, decide_eq_true_eq, Bool.not_eq_true'] at b
  exact ⟨cok_byB b.1.1.1, b.1.1.2, b.1.2, b.2⟩
def sp_l_apart_right (K : PySem.W.Frag) (C : Ad) : Sp := fun vs H Q _ => ∃ h w : Nat, vs = [.int (h : Int), .int (w : Int)] ∧ (3 ≤ h ∧ h ≤ 6 ∧ 1 ≤ w ∧ w ≤ 6) ∧ RetV (.bl true) H Q
def t_l_apart_right (K : PySem.W.Frag) (C : Ad) : TS := (tSeq (tPar 2 3 (tCons (tTup (tCons (tVar 0) (tCons (tVar 1) tNil))) (tCons (tLst (tCons (tC (.int 0)) (tCons (tOp oMul (tC (.int 2)) (tVar 1)) tNil))) tNil)))
      (tSeq (tAsg (tCall (sp_judged K C) [] E0 (tCons (tVar 2) (tCons (tVar 3) tNil))) (gName 4))
      (tSeq (tIfS (tOr (tNot (tB (tCB (rIsi K) (tCons (tVar 4) (tCons (tC (.ref C.cSplit)) tNil))))) (tTest (tOp (rNeD K) (tVar 3) (tLst (tCons (tC (.int 0)) (tCons (tOp oMul (tC (.int 2)) (tVar 1)) tNil)))))) (tRet (tC (.bl false))) tNext)
      (tSeq (tAsg (tVar 1) (gSub (tVar 3) (tC (.int 1)) rSetL))
      (tSeq (tIfS (tOr (tNot (tB (tCB (rIsi K) (tCons (tCall (sp_judged K C) [] E0 (tCons (tVar 2) (tCons (tVar 3) tNil))) (tCons (tC (.ref C.cRing)) tNil))))) (tTest (tOp rNotB (tAlt (tMeth C.cRing "shows" (sp_Ring_shows K) [] E0 (tVar 4) (tCons (tVar 2) (tCons (tVar 3) tNil))) (tAlt (tMeth C.cSplit "shows" (sp_Split_shows K C) [] E0 (tVar 4) (tCons (tVar 2) (tCons (tVar 3) tNil))) (tMeth C.cHole "shows" (sp_Hole_shows K C) [] E0 (tVar 4) (tCons (tVar 2) (tCons (tVar 3) tNil))))) (tC (.bl false))))) (tRet (tC (.bl false))) tNext)
      (tSeq (tAsg (tOp oMul (tC (.int 2)) (tVar 1)) (gSub (tVar 3) (tC (.int 1)) rSetL))
      (tRet (tAndV (tCB (rIsi K) (tCons (tCall (sp_judged K C) [] E0 (tCons (tVar 2) (tCons (tVar 3) tNil))) (tCons (tC (.ref C.cSplit)) tNil))) (tOp rIsB (tAlt (tMeth C.cRing "shows" (sp_Ring_shows K) [] E0 (tVar 4) (tCons (tVar 2) (tCons (tVar 3) tNil))) (tAlt (tMeth C.cSplit "shows" (sp_Split_shows K C) [] E0 (tVar 4) (tCons (tVar 2) (tCons (tVar 3) tNil))) (tMeth C.cHole "shows" (sp_Hole_shows K C) [] E0 (tVar 4) (tCons (tVar 2) (tCons (tVar 3) tNil))))) (tC (.bl true)))))))))))
theorem pure_l_apart_right {K : PySem.W.Frag} {C : Ad} {vs : List V} {H : Hp} {Q : VK} {E : XK} {D : Ends} (hD : D.rt = Q) {N : List Str} (hN : N.length = 5) (ci_Ring : Ci K C.cRing) (ci_Split : Ci K C.cSplit) (ki_Ring_Ring : PySem.W.kitOne K (.ref C.cRing) (.ref C.cRing) = some true) (ki_Split_Ring : PySem.W.kitOne K (.ref C.cSplit) (.ref C.cRing) = some false) (ki_Ring_Split : PySem.W.kitOne K (.ref C.cRing) (.ref C.cSplit) = some false) (ki_Split_Split : PySem.W.kitOne K (.ref C.cSplit) (.ref C.cSplit) = some true) (h : sp_l_apart_right K C vs H Q E) : t_l_apart_right K C D (start N vs) H := by
  obtain ⟨h, w, rfl, ⟨h3, h6, w1, w6⟩, q⟩ := h
  subst hD
  rw [start_eq hN]
  change t_l_apart_right K C D [some (.int (h : Int)), some (.int (w : Int)), none, none, none] H
  have gk : GOk h w := ⟨by omega, h6, w1, w6⟩
  obtain ⟨ck2, jd2, sh1, sh2⟩ := apart_facts h3 h6 w1 w6
  obtain ⟨ck1, wh1⟩ := two_whole gk (by omega)
  have jd1 := judged_whole wh1
  have e2w : ∀ {σ : L2.St} {H' : Hp}, σ[1]? = some (some (.int (w : Int))) → Ev (tOp oMul (tC (.int 2)) (tVar 1)) σ H' (.int (2 * (w : Int))) := fun hs => ev_op (x := .int 2) ev_c (ev_var hs) (rv_I (by walk_at "side"))
  refine q_parPP (i := 2) (j := 3) (ep_U (eu_tup (ea_cons (ev_var rfl) (ea_cons (ev_var rfl) ea_nil)) (by simp))) (ep_L (xs := ([0, 2 * (w : Int)] : List Int).map V.int) (el_lst (ea_cons ev_c (ea_cons (e2w rfl) ea_nil)) (by simp))) fun v u H1 H2 e1 hv e2 hu => ?_
  obtain ⟨g, rfl, hg, g1⟩ := hv
  obtain ⟨m, rfl, hm, m2⟩ := hu
  change tSeq _ _ D [some (.int (h : Int)), some (.int (w : Int)), some (.ref g), some (.ref m), none] H2
  have gs : SqT K H1 g [.int (h : Int), .int (w : Int)] := st_of g1
  refine q_asgP (i := 4) (ep_judged (K := K) (C := C) (E := E0) (cs := [0, 2 * (w : Int)]) (est_of (ev_var rfl) (ex_t e2 gs)) gk (es_of (ev_var rfl) (sq_of m2)) ck2) fun v H3 e3 hv => ?_
  rw [jd2] at hv
  obtain ⟨s, dx, rfl, hs, s3⟩ := hv
  have sm : s ≠ m := fun z => by rw [z, m2] at hs; cases hs
  have m3 := e3 _ _ m2
  change tSeq _ _ D [some (.int (h : Int)), some (.int (w : Int)), some (.ref g), some (.ref m), some (.ref s)] H3
  refine q_when (b := false) (et_is (et_or (a := false) (b := false) (et_is (et_not (et_B (ev_isiC (K := K) (ev_var rfl) s3 ci_Split ki_Split_Split))) rfl) fun _ => et_is (et_test (ev_neD (d := dI [0, 2 * (w : Int)]) (d' := dI [0, 2 * (w : Int)]) (ed_ints (es_of (K := K) (ev_var rfl) (sq_of m3))) (ed_ints (es_new (el_lst (vs := ([0, 2 * (w : Int)] : List Int).map V.int) (ea_cons ev_c (ea_cons (e2w rfl) ea_nil)) (by simp)))) (shaped_ints _) (shaped_ints _))) (by rw [eqv_ints_same]; rfl)) rfl) (fun z => nomatch z) fun _ H4 e4 => ?_
  refine q_setL (l := m) (xs := ([0, 2 * (w : Int)] : List Int).map V.int) (j := 1) (v := .int (w : Int)) (e4 _ _ m3) (ev_var rfl) (ev_var rfl) ev_c (by simp) fun H5 e5 => ?_
  have eA : Ex H1 (upd H5 m (.lst ((([0, 2 * (w : Int)] : List Int).map V.int).set 1 (.int (w : Int))))) := Ex.mut (((e2.trans e3).trans e4).trans e5) hm
  have mA : (upd H5 m (.lst ((([0, 2 * (w : Int)] : List Int).map V.int).set 1 (.int (w : Int))))) m = some (.lst (([0, (w : Int)] : List Int).map V.int)) := upd_same
  have sA : (upd H5 m (.lst ((([0, 2 * (w : Int)] : List Int).map V.int).set 1 (.int (w : Int))))) s = some (.ins C.cSplit dx (flds2 (.int 0) (.int (2 * (w : Int))))) := by
    rw [upd_ne sm]
    exact e5 _ _ (e4 _ _ s3)
  generalize upd H5 m (.lst ((([0, 2 * (w : Int)] : List Int).map V.int).set 1 (.int (w : Int)))) = A at *
  have jr := ep_judged (K := K) (C := C) (E := E0) (σ := [some (.int (h : Int)), some (.int (w : Int)), some (.ref g), some (.ref m), some (.ref s)]) (H := A) (ta := tVar 2) (tb := tVar 3) (cs := [0, (w : Int)]) (est_of (ev_var rfl) (ex_t eA gs)) gk (es_of (ev_var rfl) (sq_of mA)) ck1
  rw [jd1] at jr
  refine q_when (b := false) (et_is (et_or (a := false) (b := false) (et_is (et_not (et_B (ev_isiP1 (K := K) jr ci_Ring ki_Ring_Ring))) rfl) fun _ => et_is (et_test (ev_op (x := .bl (showsG h w [0, (w : Int)] (.split 0 (2 * (w : Int))))) (y := .bl false) (ev_showsG (K := K) (C := C) (t := .split 0 (2 * (w : Int))) (ev_var rfl) ⟨s, dx, rfl, sA⟩ (est_of (ev_var rfl) (ex_t eA gs)) gk (es_of (ev_var rfl) (sq_of mA)) (by simp) (by simp)) ev_c rv_notB)) (by rw [sh1]; rfl)) rfl) (fun z => nomatch z) fun _ B eB => ?_
  refine q_setL (l := m) (xs := ([0, (w : Int)] : List Int).map V.int) (j := 1) (v := .int (2 * (w : Int))) (eB _ _ mA) (e2w rfl) (ev_var rfl) ev_c (by simp) fun H6 e6 => ?_
  have eC : Ex H1 (upd H6 m (.lst ((([0, (w : Int)] : List Int).map V.int).set 1 (.int (2 * (w : Int)))))) := Ex.mut ((eA.trans eB).trans e6) hm
  have mC : (upd H6 m (.lst ((([0, (w : Int)] : List Int).map V.int).set 1 (.int (2 * (w : Int)))))) m = some (.lst (([0, 2 * (w : Int)] : List Int).map V.int)) := upd_same
  have sC : (upd H6 m (.lst ((([0, (w : Int)] : List Int).map V.int).set 1 (.int (2 * (w : Int)))))) s = some (.ins C.cSplit dx (flds2 (.int 0) (.int (2 * (w : Int))))) := by
    rw [upd_ne sm]
    exact e6 _ _ (eB _ _ sA)
  generalize upd H6 m (.lst ((([0, (w : Int)] : List Int).map V.int).set 1 (.int (2 * (w : Int))))) = G at *
  have js := ep_judged (K := K) (C := C) (E := E0) (σ := [some (.int (h : Int)), some (.int (w : Int)), some (.ref g), some (.ref m), some (.ref s)]) (H := G) (ta := tVar 2) (tb := tVar 3) (cs := [0, 2 * (w : Int)]) (est_of (ev_var rfl) (ex_t eC gs)) gk (es_of (ev_var rfl) (sq_of mC)) ck2
  rw [jd2] at js
  exact s_ret (v := .bl true) (ev_is (ev_andV (a := true) (b := true) (ev_isiP1 (K := K) js ci_Split ki_Split_Split) fun _ => ev_is (ev_op (x := .bl (showsG h w [0, 2 * (w : Int)] (.split 0 (2 * (w : Int))))) (y := .bl true) (ev_showsG (K := K) (C := C) (t := .split 0 (2 * (w : Int))) (ev_var rfl) ⟨s, dx, rfl, sC⟩ (est_of (ev_var rfl) (ex_t eC gs)) gk (es_of (ev_var rfl) (sq_of mC)) (by simp) (by simp)) ev_c rv_isB) (by rw [sh2]; rfl)) rfl) fun Hz ez => q Hz ((e1.trans eC).trans ez)

/-! ### k10: clues changed in place; _law_clues_right, _law_fields, _law_tell_right -/
open LamX NdefX
def delL (H : Hp) (l : List Addr) : Hp := fun a => if a ∈ l then none else H a
theorem delL_in {H : Hp} {l : List Addr} {a : Addr} (h : a ∈ l) : delL H l a = none := if_pos h
theorem delL_ni {H : Hp} {l : List Addr} {a : Addr} (h : a ∉ l) : delL H l a = H a := if_neg h
theorem delL_ex (H : Hp) (l : List Addr) : Ex (delL H l) H := fun a o h => by
  by_cases z : a ∈ l
  · rw [delL_in z] at h
    cases h
  · rw [delL_ni z] at h
    exact h
theorem ex_delL {H H' : Hp} {l : List Addr} (hl : ∀ a ∈ l, H a = none) (e : Ex H H') : Ex H (delL H' l) := fun a o h => by
  rw [delL_ni fun z => by rw [hl a z] at h; cases h]
  exact e _ _ h
/-- the rows at qs as they stand -/
abbrev RowsIn (H : Hp) (qs : List Addr) (vss : List (List Int)) : Prop := Paired (fun (q : Addr) (ns : List Int) => H q = some (.lst (ns.map V.int))) qs vss
theorem rowsIn_at {K : PySem.W.Frag} {H : Hp} {m : Addr} {qs : List Addr} {vss : List (List Int)} (h : RowsIn H qs vss) (hm : H m = some (.lst (qs.map V.ref))) : RowsAt K H m vss := ⟨qs, sq_of hm, Paired.mapP h fun _ _ z => sq_of z⟩
theorem rowsIn_mono {H H' : Hp} {qs : List Addr} {vss : List (List Int)} (e : Ex H H') (h : RowsIn H qs vss) : RowsIn H' qs vss := Paired.mapP h fun _ _ z => e _ _ z
theorem rowsIn_other {H : Hp} {q : Addr} {o : HO} : ∀ {qs : List Addr} {vss : List (List Int)}, q ∉ qs → RowsIn H qs vss → RowsIn (upd H q o) qs vss
  | [], [], _, .nil => .nil
  | a :: qs, _ :: _, hq, .cons h hs => .cons (by rw [upd_ne fun z => hq (by rw [← z]; exact List.mem_cons_self)]; exact h) (rowsIn_other (fun z => hq (List.mem_cons_of_mem _ z)) hs)
theorem rowsIn_put {H : Hp} {q : Addr} {ys : List Int} : ∀ {qs : List Addr} {vss : List (List Int)} {n : Nat}, qs.Nodup → qs[n]? = some q → RowsIn H qs vss → RowsIn (upd H q (.lst (ys.map V.int))) qs (vss.set n ys)
  | [], [], _, _, h, .nil => by simp at h
  | a :: qs, _ :: vss, 0, hn, hq, .cons h hs => by
    have e : a = q := by simpa using hq
    subst e
    exact .cons upd_same (rowsIn_other (List.nodup_cons.mp hn).1 hs)
  | a :: qs, _ :: vss, n + 1, hn, hq, .cons h hs => by
    have hq2 : qs[n]? = some q := by simpa using hq
    refine .cons ?_ (rowsIn_put (List.nodup_cons.mp hn).2 hq2 hs)
    rw [upd_ne fun z => (List.nodup_cons.mp hn).1 (by rw [z]; exact List.mem_of_getElem? hq2)]
    exact h
theorem set_same {α : Type} : ∀ {l : List α} {n : Nat} {x : α}, l[n]? = some x → l.set n x = l
  | [], _, _, h => by simp at h
  | a :: l, 0, x, h => by
    have : a = x := by simpa using h
    rw [this]
    rfl
  | a :: l, n + 1, x, h => by rw [List.set_cons_succ, set_same (by simpa using h)]
theorem set_overA {α : Type} {xs ys : List α} (hl : xs.length = ys.length) {n : Nat} {y : α} (hy : ys[n]? = some y) : (ys.take n ++ xs.drop n).set n y = ys.take (n + 1) ++ xs.drop (n + 1) := by
  have hn := (List.getElem?_eq_some_iff.mp hy).1
  rw [take_snoc hy, List.append_assoc, List.singleton_append]
  have hd : xs.drop n = xs[n] :: xs.drop (n + 1) := List.drop_eq_getElem_cons (by omega)
  rw [hd, List.set_append_right _ _ (by rw [List.length_take]; omega)]
  rw [List.length_take, show n - min n ys.length = 0 by omega]
  rfl
theorem over_at {α : Type} {xs ys : List α} (hl : xs.length = ys.length) {n : Nat} {x : α} (hx : xs[n]? = some x) : (ys.take n ++ xs.drop n)[n]? = some x := by
  have hn := (List.getElem?_eq_some_iff.mp hx).1
  rw [List.getElem?_append_right (by rw [List.length_take]; omega), List.length_take, show n - min n ys.length = 0 by omega, List.getElem?_drop, Nat.add_zero]
  exact hx
theorem paired_and {α β : Type} {F : α → β → Prop} : ∀ {l : List α} {m : List β}, Paired F l m → Paired (fun a b => F a b ∧ a ∈ l) l m
  | [], [], .nil => .nil
  | _ :: _, _ :: _, .cons h hs => .cons ⟨h, List.mem_cons_self⟩ (Paired.mapP (paired_and hs) fun _ _ z => ⟨z.1, List.mem_cons_of_mem _ z.2⟩)
section
variable {K : PySem.W.Frag} {σ : L2.St} {H : Hp} {tl : TE} {tu tz : TS} {D : Ends}
theorem s_forE {i j : Nat} {a : Addr} {xs : List V} (h : Ev tl σ H (.ref a)) (hx : SqL K H a xs) (Pv : Nat → L2.St → Hp → Prop) (h0 : ∀ H1, Ex H H1 → Pv 0 σ H1) (hq : ∀ n σ' H', Pv n σ' H' → SqL K H' a xs)
    (hs : ∀ n x σ' H' T, xs[n]? = some x → Pv n σ' H' → H' T = none → tu { D with nx := Pv (n + 1), ct := Pv (n + 1), bk := D.nx } ((σ'.set i (some (.int (n : Int)))).set j (some x)) (upd H' T (.tup [.int (n : Int), x]))) (hd : ∀ σ' H', Pv xs.length σ' H' → D.nx σ' H') :
    tFor (iEnum K (tCons tl tNil)) (gTup K 2 (gCons (gName i) (gCons (gName j) gNil))) tu D σ H := q_forE (tz := fun D => D.nx) h hx Pv h0 hq hs hd
/-- for at, row in enumerate(other): for spot, clue in enumerate(row): mine[at][spot] = clue -/
theorem q_overRows {B : Hp} {m a : Addr} {qs : List Addr} {nss mss : List (List Int)} {s0 s1 s2 s4 s5 u6 u7 u8 u9 : Option V} (hl : Ev tl [s0, s1, s2, some (.ref m), s4, s5, u6, u7, u8, u9] H (.ref a)) (eB : Ex B H) (hB : ∀ q ∈ qs, B q = none) (hm : B m = some (.lst (qs.map V.ref))) (nd : qs.Nodup) (ha : RowsAt K B a mss) (hr : RowsIn H qs nss) (hln : nss.map List.length = mss.map List.length)
    (c : ∀ v6 v7 v8 v9 H1, Ex B H1 → RowsIn H1 qs mss → tz D [s0, s1, s2, some (.ref m), s4, s5, v6, v7, v8, v9] H1) :
    tSeq (tFor (iEnum K (tCons tl tNil)) (gTup K 2 (gCons (gName 7) (gCons (gName 6) gNil))) (tFor (iEnum K (tCons (tVar 6) tNil)) (gTup K 2 (gCons (gName 8) (gCons (gName 9) gNil))) (tAsg (tVar 9) (gSub (tOp (rIxL K) (tVar 3) (tVar 7)) (tVar 8) rSetL)))) tz D [s0, s1, s2, some (.ref m), s4, s5, u6, u7, u8, u9] H := by
  obtain ⟨rs, ra, rr⟩ := ha
  have lns : nss.length = mss.length := by have := congrArg List.length hln; rwa [List.length_map, List.length_map] at this
  have lrs : rs.length = mss.length := Paired.length rr
  refine q_forE (K := K) (a := a) (xs := rs.map V.ref) hl (ex_l eB ra) (fun n σ' H' => ∃ v6 v7 v8 v9, σ' = [s0, s1, s2, some (.ref m), s4, s5, v6, v7, v8, v9] ∧ Ex B H' ∧ RowsIn H' qs (mss.take n ++ nss.drop n)) (fun H1 e1 => ⟨u6, u7, u8, u9, rfl, eB.trans e1, by rw [List.take_zero, List.drop_zero, List.nil_append]; exact rowsIn_mono e1 hr⟩) (fun n σ' H' hP => by
    obtain ⟨_, _, _, _, _, e1, _⟩ := hP
    exact ex_l e1 ra) (fun n x σ' H' T hx hP hT => ?_) (fun σ' H' hP => ?_)
  · obtain ⟨v6, v7, v8, v9, rfl, e1, h1⟩ := hP
    rw [List.getElem?_map] at hx
    obtain ⟨r, hr1, rfl⟩ := Option.map_eq_some_iff.mp hx
    obtain ⟨ms, hms, hs⟩ := paired_get rr hr1
    have hnl := (List.getElem?_eq_some_iff.mp hms).1
    obtain ⟨ns, hns, hlr⟩ : ∃ ns, nss[n]? = some ns ∧ ns.length = ms.length := by
      have z := congrArg (fun l : List Nat => l[n]?) hln
      simp only [List.getElem?_map, hms] at z
      cases hq : nss[n]? with
      | none => rw [hq] at z; cases z
      | some ns =>
        rw [hq] at z
        exact ⟨ns, rfl, by simpa using z⟩
    obtain ⟨q, hq⟩ : ∃ q, qs[n]? = some q := by
      have lq := Paired.length h1
      rw [List.length_append, List.length_take, List.length_drop] at lq
      exact ⟨qs[n], List.getElem?_eq_getElem (by omega)⟩
    have eT : Ex H' (upd H' T (.tup [.int (n : Int), .ref r])) := Ex.new hT
    change tFor _ _ _ _ [s0, s1, s2, some (.ref m), s4, s5, some (.ref r), some (.int (n : Int)), v8, v9] _
    refine s_forE (K := K) (a := r) (xs := ms.map V.int) (ev_var rfl) (ex_l (e1.trans eT) hs) (fun k σ2 H2 => ∃ w8 w9, σ2 = [s0, s1, s2, some (.ref m), s4, s5, some (.ref r), some (.int (n : Int)), w8, w9] ∧ Ex B H2 ∧ RowsIn H2 qs ((mss.take n ++ nss.drop n).set n (ms.take k ++ ns.drop k))) (fun H2 e2 => ⟨v8, v9, rfl, (e1.trans eT).trans e2, ?_⟩) (fun k σ2 H2 hP => by
      obtain ⟨_, _, _, e2, _⟩ := hP
      exact ex_l e2 hs) (fun k x σ2 H2 T2 hx2 hP2 hT2 => ?_) (fun σ2 H2 hP2 => ?_)
    · rw [List.take_zero, List.drop_zero, List.nil_append, set_same (over_at lns hns)]
      exact rowsIn_mono (eT.trans e2) h1
    · obtain ⟨w8, w9, rfl, e2, h2⟩ := hP2
      rw [List.getElem?_map] at hx2
      obtain ⟨z, hz, rfl⟩ := Option.map_eq_some_iff.mp hx2
      have hk := (List.getElem?_eq_some_iff.mp hz).1
      have eT2 : Ex H2 (upd H2 T2 (.tup [.int (k : Int), .int z])) := Ex.new hT2
      obtain ⟨row, hrow, hq2⟩ := paired_get h2 hq
      have er : row = ms.take k ++ ns.drop k := by
        rw [List.getElem?_set_self (by rw [List.length_append, List.length_take, List.length_drop]; omega)] at hrow
        exact (Option.some.inj hrow).symm
      subst er
      change tAsg _ _ _ [s0, s1, s2, some (.ref m), s4, s5, some (.ref r), some (.int (n : Int)), some (.int (k : Int)), some (.int z)] _
      refine s_setL (l := q) (xs := (ms.take k ++ ns.drop k).map V.int) (j := k) (v := .int z) (eT2 _ _ hq2) (ev_var rfl) (ev_ixS (i := (n : Int)) (es_of (K := K) (ev_var rfl) (sq_of (eT2 _ _ (e2 _ _ hm)))) (ev_var rfl) (atI_nat (by rw [List.getElem?_map, hq]; rfl))) (ev_var rfl) (by rw [List.length_map, List.length_append, List.length_take, List.length_drop]; omega) fun H3 e3 => ⟨_, _, rfl, Ex.mut ((e2.trans eT2).trans e3) (hB q (List.mem_of_getElem? hq)), ?_⟩
      have r3 := rowsIn_put (ys := ms.take (k + 1) ++ ns.drop (k + 1)) nd hq (rowsIn_mono e3 (rowsIn_mono eT2 h2))
      rw [List.set_set] at r3
      rw [← set_overA hlr hz, List.map_set] at r3
      rw [← set_overA hlr hz]
      exact r3
    · obtain ⟨w8, w9, rfl, e2, h2⟩ := hP2
      rw [List.length_map, List.take_length, show ns.drop ms.length = [] from List.drop_eq_nil_of_le (by omega), List.append_nil, set_overA lns hms] at h2
      exact ⟨_, _, _, _, rfl, e2, h2⟩
  · obtain ⟨v6, v7, v8, v9, rfl, e1, h1⟩ := hP
    rw [List.length_map, lrs, List.take_length, List.drop_eq_nil_of_le (by omega), List.append_nil] at h1
    exact c v6 v7 v8 v9 H' e1 h1
/-- for row in rows: row.append(z), rows any -/
theorem q_forAppE {H0 : Hp} {j : Nat} {p : Addr} {ps : List Addr} {m : Nat} {z : Int} (hi : Ev tl σ H (.ref p)) (hj : j < σ.length) (hy : ∃ y, σ = σ.set j y) (h1 : H p = some (.lst (ps.map V.ref))) (hr : Rows H m ps) (hf : ∀ q ∈ ps, H0 q = none) (e0 : Ex H0 H) (hm : m + ps.length ≤ 90000)
    (k : ∀ y H1, Ex H0 H1 → H1 p = some (.lst (ps.map V.ref)) → tz D (σ.set j y) H1) : tSeq (tFor (iList K tl) (gName j) (tDrop (tBM K "list" rAppend (tVar j) (tCons (tC (.int z)) tNil)))) tz D σ H := by
  refine q_forLn (K := K) (j := j) (xs := ps.map V.ref) (a := p) hi (sq_of h1) (fun n σ' H' => ∃ y, σ' = σ.set j y ∧ Ex H0 H' ∧ H' p = some (.lst (ps.map V.ref)) ∧ Rows H' (m + n) ps) (fun H8 e8 => by
      obtain ⟨y, hy⟩ := hy
      exact ⟨y, hy, e0.trans e8, e8 _ _ h1, fun q hq => by
        obtain ⟨ns', h1, h2⟩ := hr q hq
        exact ⟨ns', e8 _ _ h1, by omega⟩⟩) (fun n σ' H' hn hP => by
      obtain ⟨_, _, _, h8, _⟩ := hP
      exact sq_of h8) (fun n x σ' H8 hx hP => ?_) (fun σ' H8 hP => ?_)
  · obtain ⟨y, rfl, e8, h8, r8⟩ := hP
    have hnl : n < ps.length := by
      have := (List.getElem?_eq_some_iff.mp hx).1
      rw [List.length_map] at this
      exact this
    rw [List.getElem?_map] at hx
    obtain ⟨qq, hqq, rfl⟩ := Option.map_eq_some_iff.mp hx
    have hmm : qq ∈ ps := List.mem_of_getElem? hqq
    obtain ⟨ms, hms, hml⟩ := r8 qq hmm
    rw [List.set_set]
    have sj : (σ.set j (some (V.ref qq)))[j]? = some (some (V.ref qq)) := by
      rw [List.getElem?_set_self (by exact hj)]
    refine s_app (K := K) (l := qq) (v := .int z) hms (ev_var sj) ev_c (by rw [List.length_map]; omega) fun H10 e10 => ⟨_, rfl, Ex.mut (e8.trans e10) (hf qq hmm), ?_, fun q' hq' => ?_⟩
    · have ne : p ≠ qq := ne_of h8 hms (refs_ne_ints hmm)
      rw [upd_ne ne]
      exact e10 _ _ h8
    · by_cases hq2 : q' = qq
      · subst hq2
        refine ⟨ms ++ [z], ?_, by rw [List.length_append]; simp; omega⟩
        rw [upd_same, List.map_append]
        rfl
      · obtain ⟨ns', h1, h2⟩ := r8 q' hq'
        exact ⟨ns', by rw [upd_ne hq2]; exact e10 _ _ h1, by omega⟩
  · obtain ⟨y, rfl, e8, h8, r8⟩ := hP
    exact k y H8 e8 h8
theorem s_forAppN {H0 : Hp} {j : Nat} {ps : List Addr} {m : Nat} {z : Int} (h : EvL tl σ H (ps.map V.ref)) (hj : j < σ.length) (hy : ∃ y, σ = σ.set j y) (hr : Rows H m ps) (hf : ∀ q ∈ ps, H0 q = none) (e0 : Ex H0 H) (hm : m + ps.length ≤ 90000)
    (k : ∀ y H1, Ex H0 H1 → D.nx (σ.set j y) H1) : tFor (iList K tl) (gName j) (tDrop (tBM K "list" rAppend (tVar j) (tCons (tC (.int z)) tNil))) D σ H :=
  h H (Ex.refl H) _ fun p H1 hp e1 h1 => q_forAppE (K := K) (tl := tC (.ref p)) (tz := fun D => D.nx) (D := D) (H := H1) (H0 := H0) ev_c hj hy h1 (fun q hq => by
    obtain ⟨ns, a, b⟩ := hr q hq
    exact ⟨ns, e1 _ _ a, b⟩) hf (e0.trans e1) hm fun y H2 e2 _ => k y H2 e2
/-- for x in (data, ..) -/
theorem q_forTDq {tr : TA} {ds : List PyData} {j : Nat} (h : EvAD K tr σ H ds) (hl : ds.length ≤ 1000) (Pv : Addr → List V → Nat → L2.St → Hp → Prop) (h0 : ∀ T vs H1, H T = none → Ex H H1 → H1 T = some (.tup vs) → DpAll K H1 vs ds → Pv T vs 0 σ H1)
    (hq : ∀ T vs n σ' H', Pv T vs n σ' H' → SqT K H' T vs) (hs : ∀ T vs n x σ' H', vs[n]? = some x → Pv T vs n σ' H' → tu { D with nx := Pv T vs (n + 1), ct := Pv T vs (n + 1), bk := tz D } (σ'.set j (some x)) H') (hd : ∀ T vs σ' H', Pv T vs vs.length σ' H' → tz D σ' H') :
    tSeq (tFor (iTup K (tTup tr)) (gName j) tu) tz D σ H :=
  h H (Ex.refl H) _ fun vs H1 e hv => ⟨sz_of (by rw [dpAll_len hv]; omega), fun T hT => ⟨T, rfl, ⟨vs, st_of upd_same⟩, for_tup (Pv T vs) (h0 T vs _ (fresh_back e hT) (e.trans (Ex.new hT)) upd_same (DpAll.mono (Ex.new hT) hv)) (fun n σ' H' _ p => hq T vs n σ' H' p) (hs T vs) (hd T vs)⟩⟩
end
theorem fit_len {nss : List (List Int)} (ck : CluesR nss) : (∀ ns ∈ fittingOf nss, ns.length ≤ 9) ∧ (fittingOf nss).length ≤ 512 := ⟨fun ns hn => by
  obtain ⟨k, _, _, rfl, _⟩ := allRings_mem (List.mem_filter.mp hn).1
  exact Nat.le_trans (cellsOf_len _ _) ck.few, Nat.le_trans (List.length_filter_le _ _) (allRings_len _ _ ck.few)⟩
theorem ne_dII {nss : List (List Int)} : (!PyData.eqv (dII nss) (dII nss)) = false := by rw [eqv_dII]; simp
/-! ### the lambda of the law -/
def sp_lm_law10_0 (K : PySem.W.Frag) (C : Ad) (ws : List (Option V)) : Sp := fun vs H Q E => ∃ a, vs = [a] ∧ ∃ r nss, a = .ref r ∧ ws = [] ∧ RowsAt K H r nss ∧ cluesB nss = true ∧ RetP (fun H1 v H2 => NewLL H1 v H2 (ints2 (fittingOf nss))) H Q
def t_lm_law10_0 (K : PySem.W.Frag) (C : Ad) (E : XK) : TE := (tCall (sp_fitting K C) [] E (tCons (tVar 0) tNil))
theorem startF1 {N : List Str} (hN : N.length = 1) {x : V} : startF N [x] [] = [some x] := by unfold startF; rw [hN]; rfl
theorem pure_lm_law10_0 {K : PySem.W.Frag} {C : Ad} {vs : List V} {ws : List (Option V)} {H : Hp} {Q : VK} {E : XK} {N : List Str} (hN : N.length = 1) (h : sp_lm_law10_0 K C ws vs H Q E) : t_lm_law10_0 K C E (startF N vs ws) H Q := by
  obtain ⟨_, rfl, r, nss, rfl, rfl, h1, h2, q⟩ := h
  rw [startF1 hN]
  exact ep_fitting (K := K) (C := C) (ea_cons (ev_var rfl) ea_nil) h1 h2 H (Ex.refl H) Q q
def RClue (K : PySem.W.Frag) (C : Ad) (L : Lams10) (F : NL) (fr : List Str) (sp : List (Option V) → Sp) : Prop := (∃ c cl, F = L.lm_law10_0.atc cl c ∧ fr = ([] : List Str) ∧ sp = sp_lm_law10_0 K C)
def sp_l_clues_right (K : PySem.W.Frag) (C : Ad) (L : Lams10) (c : Cap) : Sp := fun vs H Q _ => ∃ f one other, vs = [.ref f, .ref one, .ref other] ∧ ∃ nl nss mss, H f = some (LamO f nl) ∧ nl.cl = c.cl ∧ H nl.c = some (CodeO nl.c nl.qual) ∧ RClue K C L nl c.fr (sp_lm_law10_0 K C) ∧ c.ws = [] ∧ RowsAt K H one nss ∧ RowsAt K H other mss ∧ nss.map List.length = mss.map List.length ∧ cluesB nss = true ∧ cluesB mss = true ∧ RetV (.bl true) H Q
def t_l_clues_right (K : PySem.W.Frag) (C : Ad) (L : Lams10) (c : Cap) : TS := (tSeq (tAsg (tCall (sp_l_copied K) [] E0 (tCons (tVar 1) tNil)) (gName 3))
      (tSeq (tAsg (tCallLc 0 c (RClue K C L) (fun _ => E0) (tCons (tVar 3) tNil)) (gName 4))
      (tSeq (tIfS (tTest (tOp (rNeD K) (tVar 3) (tVar 1))) (tRet (tC (.bl false))) tNext)
      (tSeq (tAsg (tCall (sp_l_copied K) [] E0 (tCons (tVar 4) tNil)) (gName 5))
      (tSeq (tFor (iList K (tVar 4)) (gName 6) (tDrop (tBM K "list" rAppend (tVar 6) (tCons (tC (.int 99)) tNil))))
      (tSeq (tDrop (tBM K "list" rAppend (tVar 4) (tCons (tLst tNil) tNil)))
      (tSeq (tIfS (tTest (tOp (rNeD K) (tCallLc 0 c (RClue K C L) (fun _ => E0) (tCons (tVar 3) tNil)) (tVar 5))) (tRet (tC (.bl false))) tNext)
      (tSeq (tFor (iEnum K (tCons (tVar 2) tNil)) (gTup K 2 (gCons (gName 7) (gCons (gName 6) gNil))) (tFor (iEnum K (tCons (tVar 6) tNil)) (gTup K 2 (gCons (gName 8) (gCons (gName 9) gNil))) (tAsg (tVar 9) (gSub (tOp (rIxL K) (tVar 3) (tVar 7)) (tVar 8) rSetL))))
      (tSeq (tIfS (tOr (tTest (tOp (rNeD K) (tCallLc 0 c (RClue K C L) (fun _ => E0) (tCons (tVar 3) tNil)) (tCallLc 0 c (RClue K C L) (fun _ => E0) (tCons (tCall (sp_l_copied K) [] E0 (tCons (tVar 2) tNil)) tNil)))) (tTest (tOp (rNeD K) (tVar 3) (tVar 2)))) (tRet (tC (.bl false))) tNext)
      (tSeq (tFor (iEnum K (tCons (tVar 1) tNil)) (gTup K 2 (gCons (gName 7) (gCons (gName 6) gNil))) (tFor (iEnum K (tCons (tVar 6) tNil)) (gTup K 2 (gCons (gName 8) (gCons (gName 9) gNil))) (tAsg (tVar 9) (gSub (tOp (rIxL K) (tVar 3) (tVar 7)) (tVar 8) rSetL))))
      (tRet (tAndV (tOp (rEqD K) (tCallLc 0 c (RClue K C L) (fun _ => E0) (tCons (tVar 3) tNil)) (tVar 5)) (tOp (rEqD K) (tVar 3) (tVar 1))))))))))))))
section
variable {K : PySem.W.Frag} {C : Ad} {L : Lams10} {c : Cap} {σ : L2.St} {H0 H : Hp} {ta : TE} {f : Addr} {nl : NL} {nss : List (List Int)}
theorem ep_fitC (e : Ex H0 H) (h1 : H0 f = some (LamO f nl)) (h2 : nl.cl = c.cl) (h3 : H0 nl.c = some (CodeO nl.c nl.qual)) (h4 : RClue K C L nl c.fr (sp_lm_law10_0 K C)) (hw : c.ws = []) (h0 : σ[0]? = some (some (.ref f))) (ha : EvP ta σ H (fun _ v H2 => ∃ a, v = .ref a ∧ RowsAt K H2 a nss)) (hb : cluesB nss = true) :
    EvP (tCallLc 0 c (RClue K C L) (fun _ => E0) (tCons ta tNil)) σ H (fun H1 v H2 => NewLL H1 v H2 (ints2 (fittingOf nss))) := fun H1 e1 Q q =>
  ⟨f, nl, h0, e1 _ _ (e _ _ h1), h2, ha H1 e1 _ fun v H2 e2 hv => by
    obtain ⟨a, rfl, hr⟩ := hv
    exact ⟨e2 _ _ (e1 _ _ (e _ _ h1)), e2 _ _ (e1 _ _ (e _ _ h3)), sp_lm_law10_0 K C, h4, ⟨_, rfl, a, nss, rfl, hw, hr, hb, fun v H3 e3 z => q v H3 (e2.trans e3) (z.back e2)⟩⟩⟩
end
theorem pure_l_clues_right {K : PySem.W.Frag} {C : Ad} {L : Lams10} {c : Cap} {vs : List V} {H : Hp} {Q : VK} {E : XK} {D : Ends} (hD : D.rt = Q) {N : List Str} (hN : N.length = 10) (h : sp_l_clues_right K C L c vs H Q E) : t_l_clues_right K C L c D (start N vs) H := by
  obtain ⟨f, one, other, rfl, nl, nss, mss, hf, hcl, hc, hR, hw, h1, h2, hln, hb, hb2, q⟩ := h
  subst hD
  rw [start_eq hN]
  change t_l_clues_right K C L c D [some (.ref f), some (.ref one), some (.ref other), none, none, none, none, none, none, none] H
  have cR := cluesB_R hb
  have cR2 := cluesB_R hb2
  have nl6 : nss.length ≤ 40000 := by have := cR.g.2.1; omega
  have ml6 : mss.length ≤ 40000 := by have := cR2.g.2.1; omega
  obtain ⟨fl1, fl2⟩ := fit_len cR
  refine q_asgP (i := 3) (ep_copied (K := K) (ev_var rfl) h1 nl6) fun v H1 e1 hv => ?_
  obtain ⟨m, qs, rfl, hm0, m1, qr, nd, mq⟩ := hv
  have q1 : RowsIn H1 qs nss := Paired.mapP qr fun _ _ z => z.2
  have q0 : ∀ x ∈ qs, H x = none := fun x hx => by
    obtain ⟨_, _, z⟩ := paired_mem qr hx
    exact z.1
  have qn1 : ∀ x ∈ qs, H1 x ≠ none := fun x hx z => by
    obtain ⟨_, _, y⟩ := paired_mem q1 hx
    rw [z] at y
    cases y
  change tSeq _ _ D [some (.ref f), some (.ref one), some (.ref other), some (.ref m), none, none, none, none, none, none] H1
  have ask : ∀ {σ : L2.St} {H' : Hp} {zss : List (List Int)}, Ex H H' → RowsAt K H' m zss → cluesB zss = true → σ[0]? = some (some (.ref f)) → σ[3]? = some (some (.ref m)) → EvP (tCallLc 0 c (RClue K C L) (fun _ => E0) (tCons (tVar 3) tNil)) σ H' (fun H1 v H2 => NewLL H1 v H2 (ints2 (fittingOf zss))) := fun {σ H' zss} e' hr hz s0 s3 =>
    ep_fitC (K := K) (C := C) (L := L) (c := c) e' hf hcl hc hR hw s0 (fun H2 e2 Q q => ev_var (σ := σ) (H := H') s3 H2 e2 _ fun H3 e3 => q _ H3 e3 ⟨m, rfl, hr.mono (e2.trans e3)⟩) hz
  refine q_asgP (i := 4) (ask e1 (rowsIn_at q1 m1) hb rfl rfl) fun v H2 e2 hv => ?_
  obtain ⟨p, ps, rfl, hp, p2, pr⟩ := hv
  change tSeq _ _ D [some (.ref f), some (.ref one), some (.ref other), some (.ref m), some (.ref p), none, none, none, none, none] H2
  refine q_when (b := false) (et_is (et_test (ev_neD (d := dII nss) (d' := dII nss) (ed_of (ev_var rfl) (rowsIn_at (K := K) (rowsIn_mono e2 q1) (e2 _ _ m1)).dp) (ed_of (ev_var rfl) (h1.mono (e1.trans e2)).dp) (shaped_rows _) (shaped_rows _))) ne_dII) (fun z => nomatch z) fun _ H3 e3 => ?_
  have pN : NewLL H1 (.ref p) H2 (ints2 (fittingOf nss)) := ⟨p, ps, rfl, hp, p2, pr⟩
  obtain ⟨p', ep, _, pA⟩ := pN.rows (K := K)
  cases ep
  refine q_asgP (i := 5) (ep_copied (K := K) (ev_var rfl) (pA.mono e3) (by omega)) fun v H4 e4 hv => ?_
  obtain ⟨k, ks, rfl, hk, k4, kr, _, _⟩ := hv
  change tSeq _ _ D [some (.ref f), some (.ref one), some (.ref other), some (.ref m), some (.ref p), some (.ref k), none, none, none, none] H4
  have e24 := e3.trans e4
  have e14 := e2.trans e24
  have pfr : ∀ x ∈ p :: ps, H1 x = none := fun x hx => by
    rcases List.mem_cons.mp hx with rfl | hx
    · exact hp
    · obtain ⟨_, _, z⟩ := paired_mem pr hx
      exact z.1
  have pin : ∀ x ∈ p :: ps, H3 x ≠ none := fun x hx z => by
    rcases List.mem_cons.mp hx with rfl | hx
    · rw [e3 _ _ p2] at z; cases z
    · obtain ⟨_, _, y⟩ := paired_mem pr hx
      rw [e3 _ _ y.2] at z
      cases z
  generalize hB1 : delL H4 (p :: ps) = B1
  have eB1 : Ex B1 H4 := by rw [← hB1]; exact delL_ex _ _
  have e1B : Ex H1 B1 := by rw [← hB1]; exact ex_delL pfr e14
  have B1n : ∀ x ∈ p :: ps, B1 x = none := fun x hx => by rw [← hB1]; exact delL_in hx
  have kB1 : RowsAt K B1 k (fittingOf nss) := ⟨ks, sq_of (by rw [← hB1, delL_ni fun z => pin k z hk]; exact k4), Paired.mapP kr fun x ns z => sq_of (by rw [← hB1, delL_ni fun y => pin x y z.1]; exact z.2)⟩
  have kq : k ∉ qs ∧ ∀ x ∈ ks, x ∉ qs := ⟨fun z => by
    have y := fresh_back (e2.trans e3) hk
    exact qn1 k z y, fun x hx z => by
    obtain ⟨_, _, y⟩ := paired_mem kr hx
    exact qn1 x z (fresh_back (e2.trans e3) y.1)⟩
  have r4 : Rows H4 9 ps := fun x hx => by
    obtain ⟨xs, hxs, y⟩ := paired_mem pr hx
    unfold ints2 at hxs
    obtain ⟨ns, hns, rfl⟩ := List.mem_map.mp hxs
    exact ⟨ns, e24 _ _ y.2, fl1 ns hns⟩
  have pl : ps.length ≤ 512 := by
    have := Paired.length pr
    unfold ints2 at this
    rw [List.length_map] at this
    omega
  refine q_forAppE (K := K) (H0 := B1) (j := 6) (p := p) (ps := ps) (m := 9) (z := 99) (ev_var rfl) (by simp) ⟨none, rfl⟩ (e24 _ _ p2) r4 (fun x hx => B1n x (List.mem_cons_of_mem _ hx)) eB1 (by omega) fun y6 H5 e5 p5 => ?_
  change tSeq _ _ D [some (.ref f), some (.ref one), some (.ref other), some (.ref m), some (.ref p), some (.ref k), y6, none, none, none] H5
  refine q_appL (l := p) (xs := ps.map V.ref) (ys := []) p5 (ev_var rfl) (el_lst ea_nil (by simp)) (by rw [List.length_map]; omega) fun z H6 _ e6 _ => ?_
  have eG : Ex B1 (upd H6 p (.lst (ps.map V.ref ++ [.ref z]))) := Ex.mut (e5.trans e6) (B1n p List.mem_cons_self)
  generalize upd H6 p (.lst (ps.map V.ref ++ [.ref z])) = G at *
  have eHB1 := e1.trans e1B
  have nLd : ∀ {H1 v H2} {zss : List (List Int)}, NewLL H1 v H2 (ints2 zss) → Dp K H2 v (dII zss) := fun z => z.dp
  refine q_when (b := false) (et_is (et_test (ev_neD (d := dII (fittingOf nss)) (d' := dII (fittingOf nss)) (ed_p (ask (eHB1.trans eG) (rowsIn_at (rowsIn_mono (e1B.trans eG) q1) (eG _ _ (e1B _ _ m1))) hb rfl rfl) fun _ _ _ z => z.dp) (ed_of (ev_var rfl) (kB1.mono eG).dp) (shaped_rows _) (shaped_rows _))) ne_dII) (fun z => nomatch z) fun _ H7 e7 => ?_
  -- from here the heap without mine's rows
  generalize hBd : delL B1 qs = B
  have eBB : Ex B B1 := by rw [← hBd]; exact delL_ex _ _
  have eHB : Ex H B := by rw [← hBd]; exact ex_delL q0 eHB1
  have Bq : ∀ x ∈ qs, B x = none := fun x hx => by rw [← hBd]; exact delL_in hx
  have Bm : B m = some (.lst (qs.map V.ref)) := by rw [← hBd, delL_ni mq]; exact e1B _ _ m1
  have kB : RowsAt K B k (fittingOf nss) := ⟨ks, sq_of (by rw [← hBd, delL_ni kq.1, ← hB1, delL_ni fun z => pin k z hk]; exact k4), Paired.mapP (paired_and kr) fun x ns z => sq_of (by rw [← hBd, delL_ni (kq.2 x z.2), ← hB1, delL_ni fun y => pin x y z.1.1]; exact z.1.2)⟩
  have eB7 : Ex B H7 := (eBB.trans eG).trans e7
  refine q_overRows (K := K) (B := B) (m := m) (a := other) (qs := qs) (nss := nss) (mss := mss) (ev_var rfl) eB7 Bq Bm nd (h2.mono eHB) (rowsIn_mono ((e1B.trans eG).trans e7) q1) hln fun v6 v7 v8 v9 H8 e8 r8 => ?_
  have hcopy : EvP (tCall (sp_l_copied K) [] E0 (tCons (tVar 2) tNil)) [some (.ref f), some (.ref one), some (.ref other), some (.ref m), some (.ref p), some (.ref k), v6, v7, v8, v9] H8 (fun _ v H2 => ∃ a, v = .ref a ∧ RowsAt K H2 a mss) := ep_imp (ep_copied (K := K) (ev_var rfl) (h2.mono (eHB.trans e8)) ml6) fun _ _ _ _ z => by
    obtain ⟨p, rfl, _, y⟩ := z.ll.rows (K := K)
    exact ⟨p, rfl, y⟩
  refine q_when (b := false) (et_is (et_or (a := false) (b := false) (et_is (et_test (ev_neD (d := dII (fittingOf mss)) (d' := dII (fittingOf mss)) (ed_p (ask (eHB.trans e8) (rowsIn_at r8 (e8 _ _ Bm)) hb2 rfl rfl) fun _ _ _ z => z.dp) (ed_p (ep_fitC (K := K) (C := C) (L := L) (c := c) (eHB.trans e8) hf hcl hc hR hw rfl hcopy hb2) fun _ _ _ z => z.dp) (shaped_rows _) (shaped_rows _))) ne_dII) fun _ => et_is (et_test (ev_neD (d := dII mss) (d' := dII mss) (ed_of (ev_var rfl) (rowsIn_at (K := K) r8 (e8 _ _ Bm)).dp) (ed_of (ev_var rfl) (h2.mono (eHB.trans e8)).dp) (shaped_rows _) (shaped_rows _))) ne_dII) rfl) (fun z => nomatch z) fun _ H9 e9 => ?_
  refine q_overRows (K := K) (B := B) (m := m) (a := one) (qs := qs) (nss := mss) (mss := nss) (ev_var rfl) (e8.trans e9) Bq Bm nd (h1.mono eHB) (rowsIn_mono e9 r8) hln.symm fun w6 w7 w8 w9 Hx ex rx => ?_
  exact s_ret (v := .bl true) (ev_is (ev_andV (a := true) (b := true) (ev_is (ev_eqD (d := dII (fittingOf nss)) (d' := dII (fittingOf nss)) (ed_p (ask (eHB.trans ex) (rowsIn_at rx (ex _ _ Bm)) hb rfl rfl) fun _ _ _ z => z.dp) (ed_of (ev_var rfl) (kB.mono ex).dp) (shaped_rows _) (shaped_rows _)) (by rw [eqv_dII]; simp)) fun _ => ev_is (ev_eqD (d := dII nss) (d' := dII nss) (ed_of (ev_var rfl) (rowsIn_at (K := K) rx (ex _ _ Bm)).dp) (ed_of (ev_var rfl) (h1.mono (eHB.trans ex)).dp) (shaped_rows _) (shaped_rows _)) (by rw [eqv_dII]; simp)) rfl) fun Hz ez => q Hz ((eHB.trans ex).trans ez)

/-! ### k10: _law_fields, _law_tell_right -/
open LamX NdefX
/-- the lists that a told answer has -/
def FldA (C : Ad) (H : Hp) (v : V) (ls : List Addr) : Prop := (∃ p dx, v = .ref p ∧ H p = some (.ins C.cNever dx []) ∧ ls = []) ∨ (∃ p dx l, v = .ref p ∧ H p = some (.ins C.cOne dx (fldsC (.ref l))) ∧ ls = [l]) ∨ (∃ p dx l m, v = .ref p ∧ H p = some (.ins C.cTwo dx (flds2 (.ref l) (.ref m))) ∧ ls = [l, m])
theorem FldA.mono {C : Ad} {H H' : Hp} {v : V} {ls : List Addr} (e : Ex H H') (h : FldA C H v ls) : FldA C H' v ls := by
  rcases h with ⟨p, dx, a, b, c⟩ | ⟨p, dx, l, a, b, c⟩ | ⟨p, dx, l, m, a, b, c⟩
  · exact .inl ⟨p, dx, a, e _ _ b, c⟩
  · exact .inr (.inl ⟨p, dx, l, a, e _ _ b, c⟩)
  · exact .inr (.inr ⟨p, dx, l, m, a, e _ _ b, c⟩)
theorem NewTold.flds {C : Ad} {nss : List (List Int)} {H1 H2 : Hp} {v : V} (h : NewTold C (toldM nss) H1 v H2) (ck : ∀ ns ∈ fittingOf nss, ns.length ≤ 9) : ∃ ls, FldA C H2 v ls ∧ (∀ l ∈ ls, H1 l = none) ∧ Rows H2 9 ls ∧ ls.length ≤ 2 := by
  unfold toldM at h
  cases hf : fittingOf nss with
  | nil =>
    rw [hf] at h
    obtain ⟨p, dx, rfl, _, h⟩ := h
    exact ⟨[], .inl ⟨p, dx, rfl, h, rfl⟩, fun l hl => (by cases hl), fun q hq => (by cases hq), by simp⟩
  | cons a r =>
    rw [hf] at ck
    cases r with
    | nil =>
      rw [hf] at h
      obtain ⟨p, dx, l, rfl, _, hl, h, h1⟩ := h
      refine ⟨[l], .inr (.inl ⟨p, dx, l, rfl, h, rfl⟩), fun x hx => ?_, fun q hq => ?_, by simp⟩
      · rw [List.mem_singleton.mp hx]; exact hl
      · rw [List.mem_singleton.mp hq]; exact ⟨a, h1, ck a List.mem_cons_self⟩
    | cons b r =>
      rw [hf] at h
      obtain ⟨p, dx, l, m, rfl, _, hl, hm, _, h, h1, h2⟩ := h
      refine ⟨[l, m], .inr (.inr ⟨p, dx, l, m, rfl, h, rfl⟩), fun x hx => ?_, fun q hq => ?_, by simp⟩
      · rcases List.mem_cons.mp hx with rfl | hx
        · exact hl
        · rw [List.mem_singleton.mp hx]; exact hm
      · rcases List.mem_cons.mp hq with rfl | hq
        · exact ⟨a, h1, ck a List.mem_cons_self⟩
        · rw [List.mem_singleton.mp hq]; exact ⟨b, h2, ck b (List.mem_cons_of_mem _ List.mem_cons_self)⟩
def sp_l_fields (K : PySem.W.Frag) (C : Ad) : Sp := fun vs H Q _ => ∃ v ls, vs = [v] ∧ FldA C H v ls ∧ RetL (ls.map V.ref) H Q
def t_l_fields (K : PySem.W.Frag) (C : Ad) : TS := (tSeq (tIfS (tB (tCB (rIsi K) (tCons (tVar 0) (tCons (tC (.ref C.cOne)) tNil)))) (tRet (tLst (tCons (tFld K (tVar 0) "cells") tNil))) tNext)
      (tRet (tIf (tB (tCB (rIsi K) (tCons (tVar 0) (tCons (tC (.ref C.cTwo)) tNil)))) (tLst (tCons (tFld K (tVar 0) "one") (tCons (tFld K (tVar 0) "other") tNil))) (tLst tNil))))
theorem pure_l_fields {K : PySem.W.Frag} {C : Ad} {vs : List V} {H : Hp} {Q : VK} {E : XK} {D : Ends} (hD : D.rt = Q) {N : List Str} (hN : N.length = 1) (cf_One : Cf K C.cOne ["cells"]) (cf_Two : Cf K C.cTwo ["one", "other"]) (ci_One : Ci K C.cOne) (ci_Two : Ci K C.cTwo) (ci_Never : Ci K C.cNever) (ki_One_One : PySem.W.kitOne K (.ref C.cOne) (.ref C.cOne) = some true) (ki_Two_One : PySem.W.kitOne K (.ref C.cTwo) (.ref C.cOne) = some false) (ki_Never_One : PySem.W.kitOne K (.ref C.cNever) (.ref C.cOne) = some false) (ki_One_Two : PySem.W.kitOne K (.ref C.cOne) (.ref C.cTwo) = some false) (ki_Two_Two : PySem.W.kitOne K (.ref C.cTwo) (.ref C.cTwo) = some true) (ki_Never_Two : PySem.W.kitOne K (.ref C.cNever) (.ref C.cTwo) = some false) (h : sp_l_fields K C vs H Q E) : t_l_fields K C D (start N vs) H := by
  obtain ⟨v, ls, rfl, h, q⟩ := h
  subst hD
  rw [start_eq hN]
  change t_l_fields K C D [some v] H
  rcases h with ⟨p, dx, rfl, b, rfl⟩ | ⟨p, dx, l, rfl, b, rfl⟩ | ⟨p, dx, l, m, rfl, b, rfl⟩
  · refine q_when (b := false) (et_B (ev_isiC (K := K) (ev_var rfl) b ci_Never ki_Never_One)) (fun z => nomatch z) fun _ H1 e1 => ?_
    exact s_retL (el_if (b := false) (et_B (ev_isiC (K := K) (ev_var rfl) (e1 _ _ b) ci_Never ki_Never_Two)) (fun z => nomatch z) fun _ => el_lst ea_nil (by simp)) fun p H2 hp e2 h2 => q.go e1 hp e2 h2
  · refine q_when (b := true) (et_B (ev_isiC (K := K) (ev_var rfl) b ci_One ki_One_One)) (fun _ H1 e1 => ?_) (fun z => nomatch z)
    exact s_retL (el_lst (ea_cons (ev_fld (ev_var rfl) (e1 _ _ b) cf_One (by simp) rfl) ea_nil) (by simp)) fun p H2 hp e2 h2 => q.go e1 hp e2 h2
  · refine q_when (b := false) (et_B (ev_isiC (K := K) (ev_var rfl) b ci_Two ki_Two_One)) (fun z => nomatch z) fun _ H1 e1 => ?_
    exact s_retL (el_if (b := true) (et_B (ev_isiC (K := K) (ev_var rfl) (e1 _ _ b) ci_Two ki_Two_Two)) (fun _ => el_lst (ea_cons (ev_fld (ev_var rfl) (e1 _ _ b) cf_Two (by simp) rfl) (ea_cons (ev_fld (ev_var rfl) (e1 _ _ b) cf_Two (by simp) rfl) ea_nil)) (by simp)) fun z => nomatch z) fun p H2 hp e2 h2 => q.go e1 hp e2 h2
theorem el_fields {K : PySem.W.Frag} {C : Ad} {σ : L2.St} {H : Hp} {ta : TE} {v : V} {ls : List Addr} (ha : Ev ta σ H v) (h : FldA C H v ls) : EvL (tCall (sp_l_fields K C) [] E0 (tCons ta tNil)) σ H (ls.map V.ref) := fun H1 e Q q =>
  ha H1 e _ fun H2 e2 => ⟨v, ls, rfl, h.mono (e.trans e2), fun p H3 hp e3 h3 => q p H3 (fresh_back e2 hp) (e2.trans e3) h3⟩
theorem ev_showsCP {K : PySem.W.Frag} {C : Ad} {σ : L2.St} {H : Hp} {ta tb : TE} {v : V} {t : Tld} {nss : List (List Int)} (ha : Ev ta σ H v) (h : TldAt K C H v t) (hb : EvP tb σ H (fun _ v H2 => ∃ a, v = .ref a ∧ RowsAt K H2 a nss)) (ck : CluesR nss) :
    Ev (tAlt (tMeth C.cOne "shows" (sp_One_shows K C) [] E0 ta (tCons tb tNil)) (tAlt (tMeth C.cTwo "shows" (sp_Two_shows K C) [] E0 ta (tCons tb tNil)) (tMeth C.cNever "shows" (sp_Never_shows K) [] E0 ta (tCons tb tNil)))) σ H (.bl (showsC nss t)) := fun H1 e Q q => by
  cases t with
  | one ns =>
    refine .inl (ha H1 e _ fun H2 e2 => ?_)
    obtain ⟨p, dx, l, rfl, h1, h2⟩ := h.mono (e.trans e2)
    refine ⟨p, dx, _, rfl, h1, fldsC_shows, hb H2 (e.trans e2) _ fun v H3 e3 hv => ?_⟩
    obtain ⟨a, rfl, hr⟩ := hv
    exact ⟨p, a, dx, l, nss, ns, rfl, e3 _ _ h1, ex_l e3 h2, hr, ck, fun H4 e4 => q H4 ((e2.trans e3).trans e4)⟩
  | two ns ms =>
    refine .inr (.inl (ha H1 e _ fun H2 e2 => ?_))
    obtain ⟨p, dx, l, m, rfl, h1, h2, h3⟩ := h.mono (e.trans e2)
    refine ⟨p, dx, _, rfl, h1, flds2_shows, hb H2 (e.trans e2) _ fun v H3 e3 hv => ?_⟩
    obtain ⟨a, rfl, hr⟩ := hv
    exact ⟨p, a, dx, l, m, nss, ns, ms, rfl, e3 _ _ h1, ex_l e3 h2, ex_l e3 h3, hr, ck, fun H4 e4 => q H4 ((e2.trans e3).trans e4)⟩
  | never =>
    refine .inr (.inr (ha H1 e _ fun H2 e2 => ?_))
    obtain ⟨p, dx, rfl, h1⟩ := h.mono (e.trans e2)
    refine ⟨p, dx, _, rfl, h1, rfl, hb H2 (e.trans e2) _ fun v H3 e3 hv => ?_⟩
    obtain ⟨a, rfl, hr⟩ := hv
    exact ⟨p, a, nss, rfl, hr, ck, fun H4 e4 => q H4 ((e2.trans e3).trans e4)⟩
def sp_l_tell_right (K : PySem.W.Frag) (C : Ad) : Sp := fun vs H Q _ => ∃ one other nss mss, vs = [.ref one, .ref other] ∧ RowsAt K H one nss ∧ RowsAt K H other mss ∧ cluesB nss = true ∧ cluesB mss = true ∧ RetV (.bl true) H Q
def t_l_tell_right (K : PySem.W.Frag) (C : Ad) : TS := (tSeq (tFor (iTup K (tTup (tCons (tVar 0) (tCons (tVar 1) (tCons (tVar 0) tNil))))) (gName 2) (tSeq (tAsg (tCall (sp_l_copied K) [] E0 (tCons (tVar 2) tNil)) (gName 3))
      (tSeq (tAsg (tCall (sp_told K C) [] E0 (tCons (tVar 3) tNil)) (gName 4))
      (tSeq (tIfS (tOr (tTest (tOp (rNeD K) (tVar 3) (tVar 2))) (tTest (tOp rNotB (tAlt (tMeth C.cOne "shows" (sp_One_shows K C) [] E0 (tVar 4) (tCons (tCall (sp_l_copied K) [] E0 (tCons (tVar 2) tNil)) tNil)) (tAlt (tMeth C.cTwo "shows" (sp_Two_shows K C) [] E0 (tVar 4) (tCons (tCall (sp_l_copied K) [] E0 (tCons (tVar 2) tNil)) tNil)) (tMeth C.cNever "shows" (sp_Never_shows K) [] E0 (tVar 4) (tCons (tCall (sp_l_copied K) [] E0 (tCons (tVar 2) tNil)) tNil)))) (tC (.bl true))))) (tRet (tC (.bl false))) tNext)
      (tFor (iList K (tCall (sp_l_fields K C) [] E0 (tCons (tVar 4) tNil))) (gName 5) (tDrop (tBM K "list" rAppend (tVar 5) (tCons (tC (.int 99)) tNil))))))))
      (tRet (tC (.bl true))))
theorem pure_l_tell_right {K : PySem.W.Frag} {C : Ad} {vs : List V} {H : Hp} {Q : VK} {E : XK} {D : Ends} (hD : D.rt = Q) {N : List Str} (hN : N.length = 6) (h : sp_l_tell_right K C vs H Q E) : t_l_tell_right K C D (start N vs) H := by
  obtain ⟨one, other, nss, mss, rfl, h1, h2, hb1, hb2, q⟩ := h
  subst hD
  rw [start_eq hN]
  change t_l_tell_right K C D [some (.ref one), some (.ref other), none, none, none, none] H
  refine q_forTDq (K := K) (j := 2) (ds := [dII nss, dII mss, dII nss]) (ead_cons (ed_of (ev_var rfl) h1.dp) (ead_cons (ed_of (ev_var rfl) h2.dp) (ead_cons (ed_of (ev_var rfl) h1.dp) ead_nil))) (by simp) (fun T vs n σ' H' => ∃ y2 y3 y4 y5, σ' = [some (.ref one), some (.ref other), y2, y3, y4, y5] ∧ Ex H H' ∧ SqT K H' T vs ∧ DpAll K H' vs [dII nss, dII mss, dII nss]) (fun T vs H1 _ e1 hT hv => ⟨_, _, _, _, rfl, e1, st_of hT, hv⟩) (fun T vs n σ' H' hP => by
    obtain ⟨_, _, _, _, _, _, hT, _⟩ := hP
    exact hT) (fun T vs n x σ' H' hx hP => ?_) (fun T vs σ' H' hP => ?_)
  · obtain ⟨y2, y3, y4, y5, rfl, e1, hT, hv⟩ := hP
    obtain ⟨d, hd, dx⟩ := dpAll_get hv hx
    have hd2 : ∃ kss, d = dII kss ∧ cluesB kss = true := by
      have := List.mem_of_getElem? hd
      simp only [List.mem_cons, List.not_mem_nil, or_false] at this
      rcases this with rfl | rfl | rfl
      · exact ⟨_, rfl, hb1⟩
      · exact ⟨_, rfl, hb2⟩
      · exact ⟨_, rfl, hb1⟩
    obtain ⟨kss, rfl, hb⟩ := hd2
    obtain ⟨a, rfl, hr⟩ := rows_of_dp dx
    have cR := cluesB_R hb
    have kl : kss.length ≤ 40000 := by have := cR.g.2.1; omega
    change tSeq _ _ _ [some (.ref one), some (.ref other), some (.ref a), y3, y4, y5] H'
    refine q_asgP (i := 3) (ep_copied (K := K) (ev_var rfl) hr kl) fun v H2 e2 hv2 => ?_
    obtain ⟨m, rfl, _, mr⟩ := hv2.ll.rows (K := K)
    change tSeq _ _ _ [some (.ref one), some (.ref other), some (.ref a), some (.ref m), y4, y5] H2
    refine q_asgP (i := 4) (ep_told (K := K) (C := C) (ea_cons (ev_var rfl) ea_nil) mr hb) fun u H3 e3 hu => ?_
    change tSeq _ _ _ [some (.ref one), some (.ref other), some (.ref a), some (.ref m), some u, y5] H3
    have cp : EvP (tCall (sp_l_copied K) [] E0 (tCons (tVar 2) tNil)) [some (.ref one), some (.ref other), some (.ref a), some (.ref m), some u, y5] H3 (fun _ v H2 => ∃ a, v = .ref a ∧ RowsAt K H2 a kss) := ep_imp (ep_copied (K := K) (ev_var rfl) (hr.mono (e2.trans e3)) kl) fun _ _ _ _ z => by
      obtain ⟨p, rfl, _, y⟩ := z.ll.rows (K := K)
      exact ⟨p, rfl, y⟩
    refine q_when (b := false) (et_is (et_or (a := false) (b := false) (et_is (et_test (ev_neD (d := dII kss) (d' := dII kss) (ed_of (ev_var rfl) (mr.mono e3).dp) (ed_of (ev_var rfl) (hr.mono (e2.trans e3)).dp) (shaped_rows _) (shaped_rows _))) ne_dII) fun _ => et_is (et_test (ev_op (x := .bl (showsC kss (toldM kss))) (y := .bl true) (ev_showsCP (K := K) (C := C) (ev_var rfl) hu.at cp cR) ev_c rv_notB)) (by rw [told_shows]; rfl)) rfl) (fun z => nomatch z) fun _ H4 e4 => ?_
    obtain ⟨ls, f1, f2, f3, f4⟩ := hu.flds (fit_len cR).1
    refine s_forAppN (K := K) (H0 := H2) (j := 5) (m := 9) (el_fields (K := K) (C := C) (ev_var rfl) (f1.mono e4)) (by simp) ⟨_, rfl⟩ (fun q hq => by
      obtain ⟨ns, y1, y2⟩ := f3 q hq
      exact ⟨ns, e4 _ _ y1, y2⟩) f2 (e3.trans e4) (by omega) fun y H5 e5 => ?_
    exact ⟨_, _, _, _, rfl, e1.trans (e2.trans e5), ex_t (e2.trans e5) hT, DpAll.mono (e2.trans e5) hv⟩
  · obtain ⟨y2, y3, y4, y5, rfl, e1, _⟩ := hP
    exact s_ret (v := .bl true) ev_c fun H2 e2 => q H2 (e1.trans e2)

/-! ### the law k10 -/
open LamX NdefX
def som7 : List (List (List Int)) := [[[-1, -1], [-1, -1]], [[2, -1], [-1, 2]], [[4, -1], [-1, -1]], [[3, 3], [0, 0]], [[2, 2], [2, 2]], [[-1, 3], [1, -1]], [[3, 2], [1, 3]]]
theorem som7_ok : ∀ nss ∈ som7, cluesB nss = true ∧ nss.map List.length = [2, 2] := by decide
theorem rings22_len : (allRings 2 2).length = 13 := by
  unfold allRings
  rw [List.length_mergeSort]
  decide +kernel
theorem rings22_nine : ∀ ns ∈ allRings 2 2, (9 : Int) ∉ ns ∧ ns.length ≤ 9 := fun ns hn => by
  obtain ⟨k, _, hk, rfl, _⟩ := allRings_mem hn
  have key : ((List.range 16).all fun k => decide ((9 : Int) ∉ cellsOf 4 k) && decide ((cellsOf 4 k).length ≤ 9)) = true := by decide +kernel
  have z := List.all_eq_true.mp key k (List.mem_range.mpr hk)
  rw [Bool.and_eq_true] at z
  exact ⟨of_decide_eq_true z.1, of_decide_eq_true z.2⟩
theorem fit_free22 : fittingOf [[-1, -1], [-1, -1]] = allRings 2 2 := by
  unfold fittingOf
  exact List.filter_eq_self.mpr fun cs _ => rfl
theorem rowsAt_N {K : PySem.W.Frag} {H H' : Hp} {a : Addr} {nss : List (List Int)} (e : ExtN H H') (h : RowsAt K H a nss) : RowsAt K H' a nss := by
  obtain ⟨rs, h1, h2⟩ := h
  exact ⟨rs, sql_N e h1, Paired.mapP h2 fun _ _ z => sql_N e z⟩
section
variable {K : PySem.W.Frag} {σ : L2.St} {H : Hp} {ta : TE} {tu tz : TS} {D : Ends}
theorem q_orTT {t1 t2 : TE} {P1 P2 : Hp → Prop} (h1 : ∀ Q : VK, (∀ H1, P1 H1 → Q (.bl true) H1) → t1 σ H Q) (h2 : ∀ H1, P1 H1 → ∀ Q : VK, (∀ H2, P2 H2 → Q (.bl true) H2) → t2 σ H1 Q) (k : ∀ H2, P2 H2 → tz D σ H2) : tSeq (tIfS (tOr (tNot (tB t1)) (tNot (tB t2))) tu tNext) tz D σ H :=
  h1 _ fun H1 p1 => ⟨true, rfl, iteF (h2 H1 p1 _ fun H2 p2 => ⟨true, rfl, iteF (k H2 p2)⟩)⟩
theorem q_popD {l : Addr} {us : List V} {u : V} (hl : H l = some (.lst (us ++ [u]))) (ha : Ev ta σ H (.ref l)) (k : ∀ H1, Ex H H1 → tz D σ (upd H1 l (.lst us))) : tSeq (tDrop (tBM0 K "list" rPop ta)) tz D σ H :=
  ha H (Ex.refl H) _ fun H1 e1 => ⟨Or.inl ⟨rfl, _, sq_of (e1 l _ hl)⟩, l, us ++ [u], u, rfl, rfl, e1 l _ hl, by simp, by rw [List.dropLast_concat]; exact k H1 e1⟩
theorem es_LL {xss : List (List Int)} (h : EvP ta σ H (fun H1 v H2 => NewLL H1 v H2 (ints2 xss))) : Ev (tCB (rLenS K) (tCons ta tNil)) σ H (.int (xss.length : Int)) := fun H1 e1 Q q => h H1 e1 _ fun v H2 e2 hv => by
  obtain ⟨p, ps, rfl, _, h2, hr⟩ := hv
  have := Paired.length hr
  unfold ints2 at this
  rw [List.length_map] at this
  rw [← this] at q
  exact ⟨p, ps.map V.ref, rfl, .inl (sq_of h2), by rw [List.length_map]; exact q H2 e2⟩
end
def sp_law10 (K : PySem.W.Frag) (TT : List NTab) : Sp := fun vs H Q _ => ∃ a ns, vs = [.ref a] ∧ SqL K H a ((ns : List Int).map V.int) ∧ (ns.length ≤ 63 ∧ ∀ z ∈ ns, Builtin.Int.intBits z ≤ 1048576) ∧ TabsN TT H ∧ ∀ H1, Q (.bl true) H1
def t_law10 (K : PySem.W.Frag) (C : Ad) (L : Lams10) (TT : List NTab) (cl0 : List (Str × Addr)) : TS := (tSeq (tAsg (tCB rAbs (tCons (tCB (rSum K) (tCons (tSl (rSlL K) (tVar 0) tNoPart (tPart (tC (.int 63)))) tNil)) tNil)) (gName 1))
      (tSeq (tPar 2 3 (tCons (tOp oAdd (tC (.int 3)) (tOp oMod (tVar 1) (tC (.int 4)))) (tCons (tOp oAdd (tC (.int 1)) (tOp oMod (tOp oDiv (tVar 1) (tC (.int 4))) (tC (.int 6)))) tNil)))
      (tSeq (tIfS (tOr (tNot (tB (tCall (sp_l_cells_right TT) [] E0 (tCons (tVar 2) (tCons (tVar 3) (tCons (tOp oAdd (tC (.int 1)) (tOp oMod (tOp oDiv (tVar 1) (tC (.int 24))) (tVar 3))) (tCons (tC (.int 0)) tNil))))))) (tNot (tB (tCall (sp_l_apart_right K C) [] E0 (tCons (tVar 2) (tCons (tVar 3) tNil)))))) (tRet (tC (.bl false))) tNext)
      (tSeq (tAsg (tLst (tCons (tLst (tCons (tLst (tCons (tUn oNeg (tC (.int 1))) (tCons (tUn oNeg (tC (.int 1))) tNil))) (tCons (tLst (tCons (tUn oNeg (tC (.int 1))) (tCons (tUn oNeg (tC (.int 1))) tNil))) tNil))) (tCons (tLst (tCons (tLst (tCons (tC (.int 2)) (tCons (tUn oNeg (tC (.int 1))) tNil))) (tCons (tLst (tCons (tUn oNeg (tC (.int 1))) (tCons (tC (.int 2)) tNil))) tNil))) (tCons (tLst (tCons (tLst (tCons (tC (.int 4)) (tCons (tUn oNeg (tC (.int 1))) tNil))) (tCons (tLst (tCons (tUn oNeg (tC (.int 1))) (tCons (tUn oNeg (tC (.int 1))) tNil))) tNil))) (tCons (tLst (tCons (tLst (tCons (tC (.int 3)) (tCons (tC (.int 3)) tNil))) (tCons (tLst (tCons (tC (.int 0)) (tCons (tC (.int 0)) tNil))) tNil))) tNil))))) (gName 4))
      (tSeq (tAsg (tOp rCat (tVar 4) (tLst (tCons (tLst (tCons (tLst (tCons (tC (.int 2)) (tCons (tC (.int 2)) tNil))) (tCons (tLst (tCons (tC (.int 2)) (tCons (tC (.int 2)) tNil))) tNil))) tNil))) (gName 4))
      (tSeq (tAsg (tOp rCat (tVar 4) (tLst (tCons (tLst (tCons (tLst (tCons (tUn oNeg (tC (.int 1))) (tCons (tC (.int 3)) tNil))) (tCons (tLst (tCons (tC (.int 1)) (tCons (tUn oNeg (tC (.int 1))) tNil))) tNil))) (tCons (tLst (tCons (tLst (tCons (tC (.int 3)) (tCons (tC (.int 2)) tNil))) (tCons (tLst (tCons (tC (.int 1)) (tCons (tC (.int 3)) tNil))) tNil))) tNil)))) (gName 4))
      (tSeq (tPar 5 6 (tCons (tOp (rIxL K) (tVar 4) (tOp oMod (tVar 1) (tC (.int 7)))) (tCons (tOp (rIxL K) (tVar 4) (tOp oMod (tOp oDiv (tVar 1) (tC (.int 7))) (tC (.int 7)))) tNil)))
      (tSeq (tIfS (tOr (tNot (tB (tCallL (fun σ => ⟨cl0, [], ([] : List Nat).map (NdefX.slotAt σ)⟩) (sp_l_clues_right K C L) E0 (tCons (tLamb TT (Lam0.atc L.lm_law10_0 cl0)) (tCons (tVar 5) (tCons (tVar 6) tNil)))))) (tNot (tB (tCall (sp_l_tell_right K C) [] E0 (tCons (tVar 5) (tCons (tVar 6) tNil)))))) (tRet (tC (.bl false))) tNext)
      (tSeq (tAsg (tCall (sp_rings K C) [] E0 (tCons (tTup (tCons (tC (.int 2)) (tCons (tC (.int 2)) tNil))) tNil)) (gName 7))
      (tSeq (tDrop (tBM K "list" rAppend (tOp (rIxL K) (tVar 7) (tC (.int 0))) (tCons (tC (.int 9)) tNil)))
      (tSeq (tDrop (tBM0 K "list" rPop (tVar 7)))
      (tSeq (tIfS (tTest (tOp rNe (tCB (rLenS K) (tCons (tCall (sp_rings K C) [] E0 (tCons (tTup (tCons (tC (.int 2)) (tCons (tC (.int 2)) tNil))) tNil)) tNil)) (tOp oAdd (tCB (rLenS K) (tCons (tVar 7) tNil)) (tC (.int 1))))) (tRet (tC (.bl false))) tNext)
      (tSeq (tIfS (tTest (tOp (rIn K false) (tC (.int 9)) (tOp (rIxL K) (tCall (sp_rings K C) [] E0 (tCons (tTup (tCons (tC (.int 2)) (tCons (tC (.int 2)) tNil))) tNil)) (tC (.int 0))))) (tRet (tC (.bl false))) tNext)
      (tRet (tOp (rEqD K) (tCall (sp_rings K C) [] E0 (tCons (tTup (tCons (tC (.int 2)) (tCons (tC (.int 2)) tNil))) tNil)) (tCall (sp_fitting K C) [] E0 (tCons (tLst (tCons (tLst (tCons (tUn oNeg (tC (.int 1))) (tCons (tUn oNeg (tC (.int 1))) tNil))) (tCons (tLst (tCons (tUn oNeg (tC (.int 1))) (tCons (tUn oNeg (tC (.int 1))) tNil))) tNil))) tNil)))))))))))))))))
theorem pure_law10 {K : PySem.W.Frag} {C : Ad} {L : Lams10} {TT : List NTab} {cl0 : List (Str × Addr)} {vs : List V} {H : Hp} {Q : VK} {E : XK} {D : Ends} (hD : D.rt = Q) {N : List Str} (hN : N.length = 8) (h : sp_law10 K TT vs H Q E) : t_law10 K C L TT cl0 D (start N vs) H := by
  obtain ⟨a, ns, rfl, hn, sk, tb, q⟩ := h
  subst hD
  rw [start_eq hN]
  change t_law10 K C L TT cl0 D [some (.ref a), none, none, none, none, none, none, none] H
  refine q_asg (i := 1) (ev_abs (ev_sum63 rfl hn)) fun H1 e1 => ?_
  obtain ⟨m, hm⟩ : ∃ m : Nat, (if (ns.take 63).sum < 0 then -(ns.take 63).sum else (ns.take 63).sum) = (m : Int) := ⟨_, (Int.toNat_of_nonneg (by split <;> omega)).symm⟩
  rw [hm]
  have t1 := tabs_ex tb e1
  clear e1 hn sk tb hm
  change tSeq _ _ D [some (.ref a), some (.int (m : Int)), none, none, none, none, none, none] H1
  refine q_par (i := 2) (j := 3) (x := .int ((3 + m % 4 : Nat) : Int)) (y := .int ((1 + m / 4 % 6 : Nat) : Int)) (ev_is (ev_op (x := .int 3) (y := .int ((m : Int) % 4)) ev_c (ev_op (ev_var rfl) ev_c (rv_I (by decide))) rv_I0) (by congr 1)) (ev_is (ev_op (x := .int 1) (y := .int ((m : Int) / 4 % 6)) ev_c (ev_op (x := .int ((m : Int) / 4)) (ev_op (ev_var rfl) ev_c (rv_I ⟨by decide, by decide⟩)) ev_c (rv_I (by decide))) rv_I0) (by congr 1)) fun H2 e2 => ?_
  obtain ⟨hh, hhe⟩ : ∃ h : Nat, h = 3 + m % 4 := ⟨_, rfl⟩
  obtain ⟨ww, hwe⟩ : ∃ w : Nat, w = 1 + m / 4 % 6 := ⟨_, rfl⟩
  rw [← hhe, ← hwe]
  change tSeq _ _ D [some (.ref a), some (.int (m : Int)), some (.int (hh : Int)), some (.int (ww : Int)), none, none, none, none] H2
  have h3 : 3 ≤ hh ∧ hh ≤ 6 := by omega
  have w1 : 1 ≤ ww ∧ ww ≤ 6 := by omega
  have t2 := tabs_ex t1 e2
  have mq : 1 ≤ 1 + m / 24 % ww ∧ 1 + m / 24 % ww ≤ ww := by
    have := Nat.mod_lt (m / 24) (show ww > 0 by omega)
    omega
  have many : Ev (tOp oAdd (tC (.int 1)) (tOp oMod (tOp oDiv (tVar 1) (tC (.int 24))) (tVar 3))) [some (.ref a), some (.int (m : Int)), some (.int (hh : Int)), some (.int (ww : Int)), none, none, none, none] H2 (.int ((1 + m / 24 % ww : Nat) : Int)) := ev_is (ev_op (x := .int 1) (y := .int ((m : Int) / 24 % (ww : Int))) ev_c (ev_op (x := .int ((m : Int) / 24)) (y := .int (ww : Int)) (ev_op (ev_var rfl) ev_c (rv_I ⟨by decide, by decide⟩)) (ev_var rfl) (rv_I (by omega))) rv_I0) (by congr 1)
  refine q_orTT (P1 := fun H3 => TabsN TT H3) (P2 := fun H3 => TabsN TT H3) (fun Q hq => ?_) (fun H3 t3 Q hq => ?_) fun H3 t3 => ?_
  · exact (ea_cons (ev_var rfl) (ea_cons (ev_var rfl) (ea_cons many (ea_cons ev_c ea_nil)))) H2 (Ex.refl H2) _ fun H3 e3 => ⟨hh, ww, 1 + m / 24 % ww, rfl, ⟨h3.1, h3.2, w1.1, w1.2, mq.1, mq.2⟩, tabs_ex t2 e3, fun H4 t4 => hq H4 t4⟩
  · exact (ea_cons (ev_var rfl) (ea_cons (ev_var rfl) ea_nil)) H3 (Ex.refl H3) _ fun H4 e4 => ⟨hh, ww, rfl, ⟨h3.1, h3.2, w1.1, w1.2⟩, fun H5 e5 => hq H5 (tabs_ex (tabs_ex t3 e4) e5)⟩
  clear many t2 t1
  refine q_asgLD (K := K) (i := 4) (ds := (som7.take 4).map dII) (ead_cons (ed_lst (ead_cons (ed_lst (ead_cons (ed_int (ev_un ev_c ru_neg)) (ead_cons (ed_int (ev_un ev_c ru_neg)) ead_nil)) (by decide)) (ead_cons (ed_lst (ead_cons (ed_int (ev_un ev_c ru_neg)) (ead_cons (ed_int (ev_un ev_c ru_neg)) ead_nil)) (by decide)) ead_nil)) (by decide)) (ead_cons (ed_lst (ead_cons (ed_lst (ead_cons (ed_int ev_c) (ead_cons (ed_int (ev_un ev_c ru_neg)) ead_nil)) (by decide)) (ead_cons (ed_lst (ead_cons (ed_int (ev_un ev_c ru_neg)) (ead_cons (ed_int ev_c) ead_nil)) (by decide)) ead_nil)) (by decide)) (ead_cons (ed_lst (ead_cons (ed_lst (ead_cons (ed_int ev_c) (ead_cons (ed_int (ev_un ev_c ru_neg)) ead_nil)) (by decide)) (ead_cons (ed_lst (ead_cons (ed_int (ev_un ev_c ru_neg)) (ead_cons (ed_int (ev_un ev_c ru_neg)) ead_nil)) (by decide)) ead_nil)) (by decide)) (ead_cons (ed_lst (ead_cons (ed_lst (ead_cons (ed_int ev_c) (ead_cons (ed_int ev_c) ead_nil)) (by decide)) (ead_cons (ed_lst (ead_cons (ed_int ev_c) (ead_cons (ed_int ev_c) ead_nil)) (by decide)) ead_nil)) (by decide)) ead_nil)))) (by decide) fun p vs H4 _ e4 p4 d4 => ?_
  change tSeq _ _ D [some (.ref a), some (.int (m : Int)), some (.int (hh : Int)), some (.int (ww : Int)), some (.ref p), none, none, none] H4
  refine q_catLD (K := K) (i := 4) (es := [dII [[2, 2], [2, 2]]]) p4 d4 (ev_var rfl) (ead_cons (ed_lst (ead_cons (ed_lst (ead_cons (ed_int ev_c) (ead_cons (ed_int ev_c) ead_nil)) (by decide)) (ead_cons (ed_lst (ead_cons (ed_int ev_c) (ead_cons (ed_int ev_c) ead_nil)) (by decide)) ead_nil)) (by decide)) ead_nil) (by decide) fun p5 vs5 H5 _ e5 h5 d5 => ?_
  change tSeq _ _ D [some (.ref a), some (.int (m : Int)), some (.int (hh : Int)), some (.int (ww : Int)), some (.ref p5), none, none, none] H5
  refine q_catLD (K := K) (i := 4) (es := [dII [[-1, 3], [1, -1]], dII [[3, 2], [1, 3]]]) h5 d5 (ev_var rfl) (ead_cons (ed_lst (ead_cons (ed_lst (ead_cons (ed_int (ev_un ev_c ru_neg)) (ead_cons (ed_int ev_c) ead_nil)) (by decide)) (ead_cons (ed_lst (ead_cons (ed_int ev_c) (ead_cons (ed_int (ev_un ev_c ru_neg)) ead_nil)) (by decide)) ead_nil)) (by decide)) (ead_cons (ed_lst (ead_cons (ed_lst (ead_cons (ed_int ev_c) (ead_cons (ed_int ev_c) ead_nil)) (by decide)) (ead_cons (ed_lst (ead_cons (ed_int ev_c) (ead_cons (ed_int ev_c) ead_nil)) (by decide)) ead_nil)) (by decide)) ead_nil)) (by decide) fun p6 vs6 H6 _ e6 h6 d6 => ?_
  change tSeq _ _ D [some (.ref a), some (.int (m : Int)), some (.int (hh : Int)), some (.int (ww : Int)), some (.ref p6), none, none, none] H6
  have d7 : DpAll K H6 vs6 (som7.map dII) := DpAll.mono (del_ex _ _) d6
  have l7 : vs6.length = 7 := dpAll_len d7
  have t6 := tabs_ex (tabs_ex (tabs_ex t3 e4) e5) e6
  have pick : ∀ j : Nat, j < 7 → ∃ r nss, vs6[j]? = some (.ref r) ∧ RowsAt K H6 r nss ∧ nss ∈ som7 := fun j hj => by
    have hv := List.getElem?_eq_getElem (l := vs6) (i := j) (by omega)
    obtain ⟨d, hd, dp⟩ := dpAll_get d7 hv
    rw [List.getElem?_map] at hd
    obtain ⟨nss, hns, rfl⟩ := Option.map_eq_some_iff.mp hd
    obtain ⟨r, hr, rr⟩ := rows_of_dp dp
    exact ⟨r, nss, by rw [hv, hr], rr, List.mem_of_getElem? hns⟩
  obtain ⟨one, nss, v1, r1, m1⟩ := pick (m % 7) (by omega)
  obtain ⟨other, mss, v2, r2, m2⟩ := pick (m / 7 % 7) (by omega)
  have ok1 := som7_ok nss m1
  have ok2 := som7_ok mss m2
  refine q_par (i := 5) (j := 6) (x := .ref one) (y := .ref other) (ev_ixS (i := ((m % 7 : Nat) : Int)) (es_of (K := K) (ev_var rfl) (sq_of h6)) (ev_is (ev_op (x := .int (m : Int)) (y := .int 7) (ev_var rfl) ev_c (rv_I (by decide))) (by congr 1)) (atI_nat v1)) (ev_ixS (i := ((m / 7 % 7 : Nat) : Int)) (es_of (K := K) (ev_var rfl) (sq_of h6)) (ev_is (ev_op (x := .int ((m : Int) / 7)) (y := .int 7) (ev_op (ev_var rfl) ev_c (rv_I ⟨by decide, by decide⟩)) ev_c (rv_I (by decide))) (by congr 1)) (atI_nat v2)) fun H7 e7 => ?_
  change tSeq _ _ D [some (.ref a), some (.int (m : Int)), some (.int (hh : Int)), some (.int (ww : Int)), some (.ref p6), some (.ref one), some (.ref other), none] H7
  have r17 := r1.mono e7
  have r27 := r2.mono e7
  refine q_orTT (P1 := fun H8 => RowsAt K H8 one nss ∧ RowsAt K H8 other mss) (P2 := fun _ => True) (fun Q hq => ?_) (fun H8 h8 Q hq => ?_) fun H8 _ => ?_
  · exact ⟨tabs_ex t6 e7, fun f c' H8 eN _ T8 _ f1 c1 => ⟨.ref one, rfl, .ref other, rfl, f, one, other, rfl, L.lm_law10_0.atc cl0 c', nss, mss, f1, rfl, c1, ⟨c', cl0, rfl, rfl, rfl⟩, rfl, rowsAt_N eN r17, rowsAt_N eN r27, by rw [ok1.2, ok2.2], ok1.1, ok2.1, fun H9 e9 => hq H9 ⟨(rowsAt_N eN r17).mono e9, (rowsAt_N eN r27).mono e9⟩⟩⟩
  · exact ⟨.ref one, rfl, .ref other, rfl, one, other, nss, mss, rfl, h8.1, h8.2, ok1.1, ok2.1, fun H9 e9 => hq H9 trivial⟩
  have gk : GOk 2 2 := ⟨by decide, by decide, by decide, by decide⟩
  have rg : ∀ {σ : L2.St} {H' : Hp}, EvP (tCall (sp_rings K C) [] E0 (tCons (tTup (tCons (tC (.int 2)) (tCons (tC (.int 2)) tNil))) tNil)) σ H' (fun H1 v H2 => NewLL H1 v H2 (ints2 (allRings 2 2))) := ep_rings (K := K) (C := C) (h := 2) (w := 2) (est_new (eu_tup (ea_cons ev_c (ea_cons ev_c ea_nil)) (by simp))) gk (by decide)
  refine q_asgP (i := 7) rg fun v H9 e9 hv => ?_
  obtain ⟨p9, ps, rfl, _, hp9, hr9⟩ := hv
  change tSeq _ _ D [some (.ref a), some (.int (m : Int)), some (.int (hh : Int)), some (.int (ww : Int)), some (.ref p6), some (.ref one), some (.ref other), some (.ref p9)] H9
  have lps : ps.length = 13 := by
    have := Paired.length hr9
    unfold ints2 at this
    rw [List.length_map, rings22_len] at this
    exact this
  obtain ⟨x, y, rfl⟩ : ∃ x y, ps = x ++ [y] := ⟨ps.dropLast, ps.getLast (fun z => by rw [z] at lps; cases lps), (List.dropLast_concat_getLast _).symm⟩
  have lx : x.length = 12 := by rw [List.length_append] at lps; simp at lps; omega
  obtain ⟨q0, hq0⟩ : ∃ q0, (x ++ [y])[0]? = some q0 := ⟨_, List.getElem?_eq_getElem (by omega)⟩
  obtain ⟨xs0, hxs0, v0⟩ := paired_get hr9 hq0
  have ms0 := List.mem_of_getElem? hxs0
  unfold ints2 at ms0
  obtain ⟨ns0, hns0, rfl⟩ := List.mem_map.mp ms0
  have l0 := (rings22_nine ns0 hns0).2
  refine q_app (l := q0) (xs := ns0.map V.int) (v := .int 9) v0.2 (ev_ixS (i := 0) (es_of (K := K) (ev_var rfl) (sq_of hp9)) ev_c (atI_nat (j := 0) (by rw [List.getElem?_map, hq0]; rfl))) ev_c (by rw [List.length_map]; omega) fun H10 e10 => ?_
  have pq : p9 ≠ q0 := ne_of hp9 v0.2 (refs_ne_ints (List.mem_of_getElem? hq0))
  have p10 : (upd H10 q0 (.lst (ns0.map V.int ++ [V.int 9]))) p9 = some (.lst (x.map V.ref ++ [.ref y])) := by
    rw [upd_ne pq, e10 _ _ hp9, List.map_append]
    rfl
  generalize upd H10 q0 (.lst (ns0.map V.int ++ [V.int 9])) = G at *
  refine q_popD (K := K) (l := p9) (us := x.map V.ref) (u := .ref y) p10 (ev_var rfl) fun H11 e11 => ?_
  have p11 : (upd H11 p9 (.lst (x.map V.ref))) p9 = some (.lst (x.map V.ref)) := upd_same
  generalize upd H11 p9 (.lst (x.map V.ref)) = G2 at *
  refine q_when (b := false) (et_is (et_test (ev_op (x := .int 13) (y := .int 13) (ev_is (es_LL (K := K) rg) (by rw [rings22_len]; rfl)) (ev_is (ev_op (x := .int 12) (y := .int 1) (ev_is (ev_lenS (es_of (K := K) (ev_var rfl) (sq_of p11))) (by rw [List.length_map, lx]; rfl)) ev_c rv_I0) (by rfl)) (rv_ne rfl))) (by decide)) (fun z => nomatch z) fun _ H12 e12 => ?_
  obtain ⟨nz, hnz⟩ : ∃ nz, (allRings 2 2)[0]? = some nz := ⟨_, List.getElem?_eq_getElem (by rw [rings22_len]; decide)⟩
  refine q_when (b := false) (et_is (et_test (ev_isIn (K := K) ev_c (es_ixLL (K := K) (i := 0) rg ev_c (atI_nat (j := 0) hnz)))) (by rw [decide_eq_false (rings22_nine nz (List.mem_of_getElem? hnz)).1])) (fun z => nomatch z) fun _ H13 e13 => ?_
  exact s_ret (v := .bl true) (ev_is (ev_eqD (d := dII (allRings 2 2)) (d' := dII (fittingOf [[-1, -1], [-1, -1]])) (ed_p rg fun _ _ _ z => z.dp) (ed_p (ep_fittingD (K := K) (C := C) (nss := [[-1, -1], [-1, -1]]) (ed_lst (ead_cons (ed_lst (ead_cons (ed_int (ev_un ev_c ru_neg)) (ead_cons (ed_int (ev_un ev_c ru_neg)) ead_nil)) (by decide)) (ead_cons (ed_lst (ead_cons (ed_int (ev_un ev_c ru_neg)) (ead_cons (ed_int (ev_un ev_c ru_neg)) ead_nil)) (by decide)) ead_nil)) (by decide)) (by decide)) fun _ _ _ z => z.dp) (shaped_rows _) (shaped_rows _)) (by rw [fit_free22, eqv_dII]; simp)) fun H14 _ => q H14

/-! ### the text -/
def topS (i : Nat) : Stmt := PySem.Challenge.pw_sidering_k10_handed_stays.main.body.getD i (.Pass ⟨0, 0, 0, 0⟩)
abbrev s_is_whole : Stmt := topS 8
theorem sc_is_whole : FnScope ["thing"] ["thing"] (defScope s_is_whole) := ⟨rfl, rfl, rfl, by decide +kernel, rfl, by decide +kernel, by decide +kernel⟩
abbrev s_check_grid : Stmt := topS 9
theorem sc_check_grid : FnScope ["grid", "one"] ["grid"] (defScope s_check_grid) := ⟨rfl, rfl, rfl, by decide +kernel, rfl, by decide +kernel, by decide +kernel⟩
abbrev s_check_cells : Stmt := topS 10
theorem sc_check_cells : FnScope ["grid", "cells", "many", "one", "other"] ["grid", "cells"] (defScope s_check_cells) := ⟨rfl, rfl, rfl, by decide +kernel, rfl, by decide +kernel, by decide +kernel⟩
abbrev s_beside : Stmt := topS 11
theorem sc_beside : FnScope ["grid", "cell", "high", "wide", "found"] ["grid", "cell"] (defScope s_beside) := ⟨rfl, rfl, rfl, by decide +kernel, rfl, by decide +kernel, by decide +kernel⟩
abbrev s_sides_of : Stmt := topS 12
theorem sc_sides_of : FnScope ["grid", "cells", "cell", "near", "one"] ["grid", "cells", "cell"] (defScope s_sides_of) := ⟨rfl, rfl, rfl, by decide +kernel, rfl, by decide +kernel, by decide +kernel⟩
abbrev s_numbers_of : Stmt := topS 13
theorem sc_numbers_of : FnScope ["grid", "cells", "high", "wide", "row", "at"] ["grid", "cells"] (defScope s_numbers_of) := ⟨rfl, rfl, rfl, by decide +kernel, rfl, by decide +kernel, by decide +kernel⟩
abbrev s_numbers : Stmt := topS 14
theorem sc_numbers : FnScope ["grid", "cells"] ["grid", "cells"] (defScope s_numbers) := ⟨rfl, rfl, rfl, by decide +kernel, rfl, by decide +kernel, by decide +kernel⟩
abbrev s_spread : Stmt := topS 17
theorem sc_spread : FnScope ["grid", "first", "some", "found", "at", "one"] ["grid", "first", "some"] (defScope s_spread) := ⟨rfl, rfl, rfl, by decide +kernel, rfl, by decide +kernel, by decide +kernel⟩
abbrev s_is_inner : Stmt := topS 18
theorem sc_is_inner : FnScope ["grid", "cells", "cell", "high", "wide", "rest", "one"] ["grid", "cells", "cell"] (defScope s_is_inner) := ⟨rfl, rfl, rfl, by decide +kernel, rfl, by decide +kernel, by decide +kernel⟩
abbrev s_first_inner : Stmt := topS 19
theorem sc_first_inner : FnScope ["grid", "cells", "cell"] ["grid", "cells"] (defScope s_first_inner) := ⟨rfl, rfl, rfl, by decide +kernel, rfl, by decide +kernel, by decide +kernel⟩
abbrev s_is_ring : Stmt := topS 20
theorem sc_is_ring : FnScope ["grid", "cells"] ["grid", "cells"] (defScope s_is_ring) := ⟨rfl, rfl, rfl, by decide +kernel, rfl, by decide +kernel, by decide +kernel⟩
abbrev s_side_ahead : Stmt := topS 33
theorem sc_side_ahead : FnScope ["grid", "cells", "point", "turn", "high", "wide", "row", "at", "pairs", "found", "here", "there"] ["grid", "cells", "point", "turn"] (defScope s_side_ahead) := ⟨rfl, rfl, rfl, by decide +kernel, rfl, by decide +kernel, by decide +kernel⟩
abbrev s_walk : Stmt := topS 34
theorem sc_walk : FnScope ["grid", "cells", "first", "steps", "found", "turn", "here", "back", "way"] ["grid", "cells"] (defScope s_walk) := ⟨rfl, rfl, rfl, by decide +kernel, rfl, by decide +kernel, by decide +kernel⟩
abbrev s_Split_init : Stmt := inClass (topS 22) 0
theorem sc_Split_init : FnScope ["self", "one", "other"] ["self", "one", "other"] (defScope s_Split_init) := ⟨rfl, rfl, rfl, by decide +kernel, rfl, by decide +kernel, by decide +kernel⟩
abbrev s_Hole_init : Stmt := inClass (topS 23) 0
theorem sc_Hole_init : FnScope ["self", "cell"] ["self", "cell"] (defScope s_Hole_init) := ⟨rfl, rfl, rfl, by decide +kernel, rfl, by decide +kernel, by decide +kernel⟩
abbrev s_judged : Stmt := topS 32
theorem sc_judged : FnScope ["grid", "cells", "near", "inner", "cell"] ["grid", "cells"] (defScope s_judged) := ⟨rfl, rfl, rfl, by decide +kernel, rfl, by decide +kernel, by decide +kernel⟩
abbrev s_Ring_shows : Stmt := inClass (topS 21) 0
theorem sc_Ring_shows : FnScope ["self", "grid", "cells"] ["self", "grid", "cells"] (defScope s_Ring_shows) := ⟨rfl, rfl, rfl, by decide +kernel, rfl, by decide +kernel, by decide +kernel⟩
abbrev s_Split_shows : Stmt := inClass (topS 22) 1
theorem sc_Split_shows : FnScope ["self", "grid", "cells"] ["self", "grid", "cells"] (defScope s_Split_shows) := ⟨rfl, rfl, rfl, by decide +kernel, rfl, by decide +kernel, by decide +kernel⟩
abbrev s_Hole_shows : Stmt := inClass (topS 23) 1
theorem sc_Hole_shows : FnScope ["self", "grid", "cells"] ["self", "grid", "cells"] (defScope s_Hole_shows) := ⟨rfl, rfl, rfl, by decide +kernel, rfl, by decide +kernel, by decide +kernel⟩
abbrev s_l_door_right : Stmt := topS 41
theorem sc_l_door_right : FnScope ["_law_ask", "_law_one", "_law_other", "_law_mine", "_law_given", "_law_kept", "_law_at", "_law_thing"] ["_law_ask", "_law_one", "_law_other"] (defScope s_l_door_right) := ⟨rfl, rfl, rfl, by decide +kernel, rfl, by decide +kernel, by decide +kernel⟩
abbrev s_l_cells_right : Stmt := topS 45
theorem sc_l_cells_right : FnScope ["_law_high", "_law_wide", "_law_many", "_law_at", "_law_grid", "_law_one", "_law_other", "_law_first", "_law_place"] ["_law_high", "_law_wide", "_law_many", "_law_at"] (defScope s_l_cells_right) := ⟨rfl, rfl, rfl, by decide +kernel, rfl, by decide +kernel, by decide +kernel⟩
abbrev s_l_apart_right : Stmt := topS 46
theorem sc_l_apart_right : FnScope ["_law_high", "_law_wide", "_law_grid", "_law_mine", "_law_split"] ["_law_high", "_law_wide"] (defScope s_l_apart_right) := ⟨rfl, rfl, rfl, by decide +kernel, rfl, by decide +kernel, by decide +kernel⟩
abbrev s_l_copied : Stmt := topS 43
theorem sc_l_copied : FnScope ["_law_rows", "_law_row"] ["_law_rows"] (defScope s_l_copied) := ⟨rfl, rfl, rfl, by decide +kernel, rfl, by decide +kernel, by decide +kernel⟩
abbrev s_check_clues : Stmt := topS 37
theorem sc_check_clues : FnScope ["clues", "wide", "row", "clue"] ["clues"] (defScope s_check_clues) := ⟨rfl, rfl, rfl, by decide +kernel, rfl, by decide +kernel, by decide +kernel⟩
abbrev s_all_rings : Stmt := topS 24
theorem sc_all_rings : FnScope ["grid", "many", "found", "number", "cells", "cell"] ["grid"] (defScope s_all_rings) := ⟨rfl, rfl, rfl, by decide +kernel, rfl, by decide +kernel, by decide +kernel⟩
abbrev s_fits : Stmt := topS 25
theorem sc_fits : FnScope ["clues", "cells", "told", "row", "line", "clue", "number"] ["clues", "cells"] (defScope s_fits) := ⟨rfl, rfl, rfl, by decide +kernel, rfl, by decide +kernel, by decide +kernel⟩
abbrev s_fitting_of : Stmt := topS 26
theorem sc_fitting_of : FnScope ["clues", "cells"] ["clues"] (defScope s_fitting_of) := ⟨rfl, rfl, rfl, by decide +kernel, rfl, by decide +kernel, by decide +kernel⟩
abbrev s_fitting : Stmt := topS 38
theorem sc_fitting : FnScope ["clues"] ["clues"] (defScope s_fitting) := ⟨rfl, rfl, rfl, by decide +kernel, rfl, by decide +kernel, by decide +kernel⟩
abbrev s_l_clues_right : Stmt := topS 44
theorem sc_l_clues_right : FnScope ["_law_ask", "_law_one", "_law_other", "_law_mine", "_law_given", "_law_kept", "_law_row", "_law_at", "_law_spot", "_law_clue"] ["_law_ask", "_law_one", "_law_other"] (defScope s_l_clues_right) := ⟨rfl, rfl, rfl, by decide +kernel, rfl, by decide +kernel, by decide +kernel⟩
abbrev s_One_init : Stmt := inClass (topS 27) 0
theorem sc_One_init : FnScope ["self", "cells"] ["self", "cells"] (defScope s_One_init) := ⟨rfl, rfl, rfl, by decide +kernel, rfl, by decide +kernel, by decide +kernel⟩
abbrev s_Two_init : Stmt := inClass (topS 28) 0
theorem sc_Two_init : FnScope ["self", "one", "other"] ["self", "one", "other"] (defScope s_Two_init) := ⟨rfl, rfl, rfl, by decide +kernel, rfl, by decide +kernel, by decide +kernel⟩
abbrev s_told : Stmt := topS 39
theorem sc_told : FnScope ["clues", "found"] ["clues"] (defScope s_told) := ⟨rfl, rfl, rfl, by decide +kernel, rfl, by decide +kernel, by decide +kernel⟩
abbrev s_l_fields : Stmt := topS 42
theorem sc_l_fields : FnScope ["_law_found"] ["_law_found"] (defScope s_l_fields) := ⟨rfl, rfl, rfl, by decide +kernel, rfl, by decide +kernel, by decide +kernel⟩
abbrev s_One_shows : Stmt := inClass (topS 27) 1
theorem sc_One_shows : FnScope ["self", "clues"] ["self", "clues"] (defScope s_One_shows) := ⟨rfl, rfl, rfl, by decide +kernel, rfl, by decide +kernel, by decide +kernel⟩
abbrev s_Two_shows : Stmt := inClass (topS 28) 1
theorem sc_Two_shows : FnScope ["self", "clues", "found"] ["self", "clues"] (defScope s_Two_shows) := ⟨rfl, rfl, rfl, by decide +kernel, rfl, by decide +kernel, by decide +kernel⟩
abbrev s_Never_shows : Stmt := inClass (topS 29) 0
theorem sc_Never_shows : FnScope ["self", "clues"] ["self", "clues"] (defScope s_Never_shows) := ⟨rfl, rfl, rfl, by decide +kernel, rfl, by decide +kernel, by decide +kernel⟩
abbrev s_l_tell_right : Stmt := topS 47
theorem sc_l_tell_right : FnScope ["_law_one", "_law_other", "_law_clues", "_law_mine", "_law_found", "_law_row"] ["_law_one", "_law_other"] (defScope s_l_tell_right) := ⟨rfl, rfl, rfl, by decide +kernel, rfl, by decide +kernel, by decide +kernel⟩
abbrev s_check_few : Stmt := topS 35
theorem sc_check_few : FnScope ["grid"] ["grid"] (defScope s_check_few) := ⟨rfl, rfl, rfl, by decide +kernel, rfl, by decide +kernel, by decide +kernel⟩
abbrev s_rings : Stmt := topS 36
theorem sc_rings : FnScope ["grid"] ["grid"] (defScope s_rings) := ⟨rfl, rfl, rfl, by decide +kernel, rfl, by decide +kernel, by decide +kernel⟩
abbrev s_law10 : Stmt := topS 48
theorem sc_law10 : FnScope ["_law_script", "_law_more", "_law_high", "_law_wide", "_law_some", "_law_one", "_law_other", "_law_first"] ["_law_script"] (defScope s_law10) := ⟨rfl, rfl, rfl, by decide +kernel, rfl, by decide +kernel, by decide +kernel⟩
structure Tx (K : PySem.W.Frag) (mg : Str → Option Value) where
  C : Ad
  f_is_whole : Addr
  fd_is_whole : FuncData
  F_is_whole : Fun K "is_whole" "is_whole" s_is_whole f_is_whole fd_is_whole
  g_is_whole : mg "is_whole" = some (.ref f_is_whole)
  b_is_whole : Binds K fd_is_whole ["thing"] []
  f_check_grid : Addr
  fd_check_grid : FuncData
  F_check_grid : Fun K "check_grid" "check_grid" s_check_grid f_check_grid fd_check_grid
  g_check_grid : mg "check_grid" = some (.ref f_check_grid)
  b_check_grid : Binds K fd_check_grid ["grid"] []
  f_check_cells : Addr
  fd_check_cells : FuncData
  F_check_cells : Fun K "check_cells" "check_cells" s_check_cells f_check_cells fd_check_cells
  g_check_cells : mg "check_cells" = some (.ref f_check_cells)
  b_check_cells : Binds K fd_check_cells ["grid", "cells"] []
  f_beside : Addr
  fd_beside : FuncData
  F_beside : Fun K "beside" "beside" s_beside f_beside fd_beside
  g_beside : mg "beside" = some (.ref f_beside)
  b_beside : Binds K fd_beside ["grid", "cell"] []
  f_sides_of : Addr
  fd_sides_of : FuncData
  F_sides_of : Fun K "sides_of" "sides_of" s_sides_of f_sides_of fd_sides_of
  g_sides_of : mg "sides_of" = some (.ref f_sides_of)
  b_sides_of : Binds K fd_sides_of ["grid", "cells", "cell"] []
  f_numbers_of : Addr
  fd_numbers_of : FuncData
  F_numbers_of : Fun K "numbers_of" "numbers_of" s_numbers_of f_numbers_of fd_numbers_of
  g_numbers_of : mg "numbers_of" = some (.ref f_numbers_of)
  b_numbers_of : Binds K fd_numbers_of ["grid", "cells"] []
  f_numbers : Addr
  fd_numbers : FuncData
  F_numbers : Fun K "numbers" "numbers" s_numbers f_numbers fd_numbers
  g_numbers : mg "numbers" = some (.ref f_numbers)
  b_numbers : Binds K fd_numbers ["grid", "cells"] []
  f_spread : Addr
  fd_spread : FuncData
  F_spread : Fun K "spread" "spread" s_spread f_spread fd_spread
  g_spread : mg "spread" = some (.ref f_spread)
  b_spread : Binds K fd_spread ["grid", "first", "some"] []
  f_is_inner : Addr
  fd_is_inner : FuncData
  F_is_inner : Fun K "is_inner" "is_inner" s_is_inner f_is_inner fd_is_inner
  g_is_inner : mg "is_inner" = some (.ref f_is_inner)
  b_is_inner : Binds K fd_is_inner ["grid", "cells", "cell"] []
  f_first_inner : Addr
  fd_first_inner : FuncData
  F_first_inner : Fun K "first_inner" "first_inner" s_first_inner f_first_inner fd_first_inner
  g_first_inner : mg "first_inner" = some (.ref f_first_inner)
  b_first_inner : Binds K fd_first_inner ["grid", "cells"] []
  f_is_ring : Addr
  fd_is_ring : FuncData
  F_is_ring : Fun K "is_ring" "is_ring" s_is_ring f_is_ring fd_is_ring
  g_is_ring : mg "is_ring" = some (.ref f_is_ring)
  b_is_ring : Binds K fd_is_ring ["grid", "cells"] []
  f_side_ahead : Addr
  fd_side_ahead : FuncData
  F_side_ahead : Fun K "side_ahead" "side_ahead" s_side_ahead f_side_ahead fd_side_ahead
  g_side_ahead : mg "side_ahead" = some (.ref f_side_ahead)
  b_side_ahead : Binds K fd_side_ahead ["grid", "cells", "point", "turn"] []
  f_walk : Addr
  fd_walk : FuncData
  F_walk : Fun K "walk" "walk" s_walk f_walk fd_walk
  g_walk : mg "walk" = some (.ref f_walk)
  b_walk : Binds K fd_walk ["grid", "cells"] []
  g_Split : mg "Split" = some (.ref C.cSplit)
  f_Split_init : Addr
  fd_Split_init : FuncData
  F_Split_init : Fun K "__init__" "Split.__init__" s_Split_init f_Split_init fd_Split_init
  b_Split_init : Binds K fd_Split_init ["self", "one", "other"] []
  g_Hole : mg "Hole" = some (.ref C.cHole)
  f_Hole_init : Addr
  fd_Hole_init : FuncData
  F_Hole_init : Fun K "__init__" "Hole.__init__" s_Hole_init f_Hole_init fd_Hole_init
  b_Hole_init : Binds K fd_Hole_init ["self", "cell"] []
  f_judged : Addr
  fd_judged : FuncData
  F_judged : Fun K "judged" "judged" s_judged f_judged fd_judged
  g_judged : mg "judged" = some (.ref f_judged)
  b_judged : Binds K fd_judged ["grid", "cells"] []
  g_Ring : mg "Ring" = some (.ref C.cRing)
  f_Ring_shows : Addr
  fd_Ring_shows : FuncData
  F_Ring_shows : Fun K "shows" "Ring.shows" s_Ring_shows f_Ring_shows fd_Ring_shows
  b_Ring_shows : Binds K fd_Ring_shows ["self", "grid", "cells"] []
  f_Split_shows : Addr
  fd_Split_shows : FuncData
  F_Split_shows : Fun K "shows" "Split.shows" s_Split_shows f_Split_shows fd_Split_shows
  b_Split_shows : Binds K fd_Split_shows ["self", "grid", "cells"] []
  f_Hole_shows : Addr
  fd_Hole_shows : FuncData
  F_Hole_shows : Fun K "shows" "Hole.shows" s_Hole_shows f_Hole_shows fd_Hole_shows
  b_Hole_shows : Binds K fd_Hole_shows ["self", "grid", "cells"] []
  f_l_door_right : Addr
  fd_l_door_right : FuncData
  F_l_door_right : Fun K "_law_door_right" "_law_door_right" s_l_door_right f_l_door_right fd_l_door_right
  g_l_door_right : mg "_law_door_right" = some (.ref f_l_door_right)
  b_l_door_right : Binds K fd_l_door_right ["_law_ask", "_law_one", "_law_other"] []
  f_l_cells_right : Addr
  fd_l_cells_right : FuncData
  F_l_cells_right : Fun K "_law_cells_right" "_law_cells_right" s_l_cells_right f_l_cells_right fd_l_cells_right
  cc_l_cells_right : Addr
  pp_l_cells_right : Addr
  hcd_l_cells_right : fd_l_cells_right.code = .ref cc_l_cells_right
  g_l_cells_right : mg "_law_cells_right" = some (.ref f_l_cells_right)
  b_l_cells_right : Binds K fd_l_cells_right ["_law_high", "_law_wide", "_law_many", "_law_at"] []
  f_l_apart_right : Addr
  fd_l_apart_right : FuncData
  F_l_apart_right : Fun K "_law_apart_right" "_law_apart_right" s_l_apart_right f_l_apart_right fd_l_apart_right
  g_l_apart_right : mg "_law_apart_right" = some (.ref f_l_apart_right)
  b_l_apart_right : Binds K fd_l_apart_right ["_law_high", "_law_wide"] []
  f_l_copied : Addr
  fd_l_copied : FuncData
  F_l_copied : Fun K "_law_copied" "_law_copied" s_l_copied f_l_copied fd_l_copied
  g_l_copied : mg "_law_copied" = some (.ref f_l_copied)
  b_l_copied : Binds K fd_l_copied ["_law_rows"] []
  f_check_clues : Addr
  fd_check_clues : FuncData
  F_check_clues : Fun K "check_clues" "check_clues" s_check_clues f_check_clues fd_check_clues
  g_check_clues : mg "check_clues" = some (.ref f_check_clues)
  b_check_clues : Binds K fd_check_clues ["clues"] []
  f_all_rings : Addr
  fd_all_rings : FuncData
  F_all_rings : Fun K "all_rings" "all_rings" s_all_rings f_all_rings fd_all_rings
  g_all_rings : mg "all_rings" = some (.ref f_all_rings)
  b_all_rings : Binds K fd_all_rings ["grid"] []
  f_fits : Addr
  fd_fits : FuncData
  F_fits : Fun K "fits" "fits" s_fits f_fits fd_fits
  g_fits : mg "fits" = some (.ref f_fits)
  b_fits : Binds K fd_fits ["clues", "cells"] []
  f_fitting_of : Addr
  fd_fitting_of : FuncData
  F_fitting_of : Fun K "fitting_of" "fitting_of" s_fitting_of f_fitting_of fd_fitting_of
  g_fitting_of : mg "fitting_of" = some (.ref f_fitting_of)
  b_fitting_of : Binds K fd_fitting_of ["clues"] []
  f_fitting : Addr
  fd_fitting : FuncData
  F_fitting : Fun K "fitting" "fitting" s_fitting f_fitting fd_fitting
  g_fitting : mg "fitting" = some (.ref f_fitting)
  b_fitting : Binds K fd_fitting ["clues"] []
  f_l_clues_right : Addr
  fd_l_clues_right : FuncData
  F_l_clues_right : Fun K "_law_clues_right" "_law_clues_right" s_l_clues_right f_l_clues_right fd_l_clues_right
  g_l_clues_right : mg "_law_clues_right" = some (.ref f_l_clues_right)
  b_l_clues_right : Binds K fd_l_clues_right ["_law_ask", "_law_one", "_law_other"] []
  g_One : mg "One" = some (.ref C.cOne)
  f_One_init : Addr
  fd_One_init : FuncData
  F_One_init : Fun K "__init__" "One.__init__" s_One_init f_One_init fd_One_init
  b_One_init : Binds K fd_One_init ["self", "cells"] []
  g_Two : mg "Two" = some (.ref C.cTwo)
  f_Two_init : Addr
  fd_Two_init : FuncData
  F_Two_init : Fun K "__init__" "Two.__init__" s_Two_init f_Two_init fd_Two_init
  b_Two_init : Binds K fd_Two_init ["self", "one", "other"] []
  f_told : Addr
  fd_told : FuncData
  F_told : Fun K "told" "told" s_told f_told fd_told
  g_told : mg "told" = some (.ref f_told)
  b_told : Binds K fd_told ["clues"] []
  f_l_fields : Addr
  fd_l_fields : FuncData
  F_l_fields : Fun K "_law_fields" "_law_fields" s_l_fields f_l_fields fd_l_fields
  g_l_fields : mg "_law_fields" = some (.ref f_l_fields)
  b_l_fields : Binds K fd_l_fields ["_law_found"] []
  f_One_shows : Addr
  fd_One_shows : FuncData
  F_One_shows : Fun K "shows" "One.shows" s_One_shows f_One_shows fd_One_shows
  b_One_shows : Binds K fd_One_shows ["self", "clues"] []
  f_Two_shows : Addr
  fd_Two_shows : FuncData
  F_Two_shows : Fun K "shows" "Two.shows" s_Two_shows f_Two_shows fd_Two_shows
  b_Two_shows : Binds K fd_Two_shows ["self", "clues"] []
  g_Never : mg "Never" = some (.ref C.cNever)
  f_Never_shows : Addr
  fd_Never_shows : FuncData
  F_Never_shows : Fun K "shows" "Never.shows" s_Never_shows f_Never_shows fd_Never_shows
  b_Never_shows : Binds K fd_Never_shows ["self", "clues"] []
  f_l_tell_right : Addr
  fd_l_tell_right : FuncData
  F_l_tell_right : Fun K "_law_tell_right" "_law_tell_right" s_l_tell_right f_l_tell_right fd_l_tell_right
  g_l_tell_right : mg "_law_tell_right" = some (.ref f_l_tell_right)
  b_l_tell_right : Binds K fd_l_tell_right ["_law_one", "_law_other"] []
  f_check_few : Addr
  fd_check_few : FuncData
  F_check_few : Fun K "check_few" "check_few" s_check_few f_check_few fd_check_few
  g_check_few : mg "check_few" = some (.ref f_check_few)
  b_check_few : Binds K fd_check_few ["grid"] []
  f_rings : Addr
  fd_rings : FuncData
  F_rings : Fun K "rings" "rings" s_rings f_rings fd_rings
  g_rings : mg "rings" = some (.ref f_rings)
  b_rings : Binds K fd_rings ["grid"] []
  f_law10 : Addr
  fd_law10 : FuncData
  F_law10 : Fun K "law" "law" s_law10 f_law10 fd_law10
  cc_law10 : Addr
  pp_law10 : Addr
  hcd_law10 : fd_law10.code = .ref cc_law10
  ne_l_cells_right_law10 : pp_l_cells_right ≠ pp_law10
  g_law10 : mg "law" = some (.ref f_law10)
  b_law10 : Binds K fd_law10 ["_law_script"] []
  n_isinstance : mg "isinstance" = none
  n_int : mg "int" = none
  n_bool : mg "bool" = none
  n_tuple : mg "tuple" = none
  n_len : mg "len" = none
  n_all : mg "all" = none
  k_MOST : Tok
  g_MOST : mg "MOST" = some (.int 6 k_MOST)
  g_BadGrid : mg "BadGrid" = some (.ref C.cBadGrid)
  x_BadGrid : PySem.W.excIn K C.cBadGrid [.type "ValueError", .type "Exception", .type "BaseException", .type "object"] "ValueError.__new__" = true
  k_BadGrid : PySem.W.keepIn K (.ref C.cBadGrid) = true
  e_BadGrid : PySem.W.subIn K (.ref C.cBadGrid) (.type "BaseException") = some true
  y_BadGrid : PySem.W.typeIn K (.ref C.cBadGrid) = some (.type "type")
  n_list : mg "list" = none
  g_BadCells : mg "BadCells" = some (.ref C.cBadCells)
  x_BadCells : PySem.W.excIn K C.cBadCells [.type "ValueError", .type "Exception", .type "BaseException", .type "object"] "ValueError.__new__" = true
  k_BadCells : PySem.W.keepIn K (.ref C.cBadCells) = true
  e_BadCells : PySem.W.subIn K (.ref C.cBadCells) (.type "BaseException") = some true
  y_BadCells : PySem.W.typeIn K (.ref C.cBadCells) = some (.type "type")
  n_any : mg "any" = none
  n_zip : mg "zip" = none
  n_range : mg "range" = none
  g_NoRing : mg "NoRing" = some (.ref C.cNoRing)
  x_NoRing : PySem.W.excIn K C.cNoRing [.type "ValueError", .type "Exception", .type "BaseException", .type "object"] "ValueError.__new__" = true
  k_NoRing : PySem.W.keepIn K (.ref C.cNoRing) = true
  e_NoRing : PySem.W.subIn K (.ref C.cNoRing) (.type "BaseException") = some true
  y_NoRing : PySem.W.typeIn K (.ref C.cNoRing) = some (.type "type")
  cl_Split : Cls K C.cSplit
  cf_Split : Cf K C.cSplit ["one", "other"]
  cl_Hole : Cls K C.cHole
  cf_Hole : Cf K C.cHole ["cell"]
  m_Split : Mk K C.cSplit f_Split_init
  m_Ring : Mk0 K C.cRing
  m_Hole : Mk K C.cHole f_Hole_init
  cl_Ring : Cls K C.cRing
  mt_Ring_shows : Meth K C.cRing "shows" f_Ring_shows
  mt_Split_shows : Meth K C.cSplit "shows" f_Split_shows
  mt_Hole_shows : Meth K C.cHole "shows" f_Hole_shows
  n_enumerate : mg "enumerate" = none
  ci_Ring : Ci K C.cRing
  ki_Ring_Ring : PySem.W.kitOne K (.ref C.cRing) (.ref C.cRing) = some true
  ci_Split : Ci K C.cSplit
  ki_Split_Ring : PySem.W.kitOne K (.ref C.cSplit) (.ref C.cRing) = some false
  ki_Ring_Split : PySem.W.kitOne K (.ref C.cRing) (.ref C.cSplit) = some false
  ki_Split_Split : PySem.W.kitOne K (.ref C.cSplit) (.ref C.cSplit) = some true
  g_BadClues : mg "BadClues" = some (.ref C.cBadClues)
  x_BadClues : PySem.W.excIn K C.cBadClues [.type "ValueError", .type "Exception", .type "BaseException", .type "object"] "ValueError.__new__" = true
  k_BadClues : PySem.W.keepIn K (.ref C.cBadClues) = true
  e_BadClues : PySem.W.subIn K (.ref C.cBadClues) (.type "BaseException") = some true
  y_BadClues : PySem.W.typeIn K (.ref C.cBadClues) = some (.type "type")
  k_FEW : Tok
  g_FEW : mg "FEW" = some (.int 9 k_FEW)
  n_sorted : mg "sorted" = none
  cl_One : Cls K C.cOne
  cf_One : Cf K C.cOne ["cells"]
  cl_Two : Cls K C.cTwo
  cf_Two : Cf K C.cTwo ["one", "other"]
  m_Never : Mk0 K C.cNever
  m_One : Mk K C.cOne f_One_init
  m_Two : Mk K C.cTwo f_Two_init
  ci_One : Ci K C.cOne
  ci_Two : Ci K C.cTwo
  cl_Never : Cls K C.cNever
  ci_Never : Ci K C.cNever
  ki_One_One : PySem.W.kitOne K (.ref C.cOne) (.ref C.cOne) = some true
  ki_Two_One : PySem.W.kitOne K (.ref C.cTwo) (.ref C.cOne) = some false
  ki_Never_One : PySem.W.kitOne K (.ref C.cNever) (.ref C.cOne) = some false
  ki_One_Two : PySem.W.kitOne K (.ref C.cOne) (.ref C.cTwo) = some false
  ki_Two_Two : PySem.W.kitOne K (.ref C.cTwo) (.ref C.cTwo) = some true
  ki_Never_Two : PySem.W.kitOne K (.ref C.cNever) (.ref C.cTwo) = some false
  mt_One_shows : Meth K C.cOne "shows" f_One_shows
  mt_Two_shows : Meth K C.cTwo "shows" f_Two_shows
  mt_Never_shows : Meth K C.cNever "shows" f_Never_shows
  n_abs : mg "abs" = none
  n_sum : mg "sum" = none
def lamsT : Lams10 := { lm_l_cells_right_0 := lamOf ("_law_cells_right" ++ ".<locals>." ++ "<lambda>") s_l_cells_right [2] [0, 1], lm_l_cells_right_1 := lamOf ("_law_cells_right" ++ ".<locals>." ++ "<lambda>") s_l_cells_right [4] [0, 1], lm_l_cells_right_2 := lamOf ("_law_cells_right" ++ ".<locals>." ++ "<lambda>") s_l_cells_right [5] [0, 1], lm_law10_0 := lamOf ("law" ++ ".<locals>." ++ "<lambda>") s_law10 [7] [0, 0, 1] }
def csT {K : PySem.W.Frag} {mg : Str → Option Value} (T : Tx K mg) : List (Addr × Addr) := [(T.cc_l_cells_right, T.pp_l_cells_right), (T.cc_law10, T.pp_law10)]
abbrev nm_l_cells_right : Nat → Nat → Str := fun _ _ => "_law_cells_right" ++ ".<locals>." ++ "<lambda>"
abbrev nm_law10 : Nat → Nat → Str := fun _ _ => "law" ++ ".<locals>." ++ "<lambda>"
def tabsT {K : PySem.W.Frag} {mg : Str → Option Value} (T : Tx K mg) : List NdefX.NTab := [(T.pp_l_cells_right, nm_l_cells_right), (T.pp_law10, nm_law10)]
theorem tc_l_cells_right {K : PySem.W.Frag} {mg : Str → Option Value} (T : Tx K mg) : (T.cc_l_cells_right, T.pp_l_cells_right) ∈ csT T := List.mem_cons_self
theorem tm_l_cells_right {K : PySem.W.Frag} {mg : Str → Option Value} (T : Tx K mg) : (T.pp_l_cells_right, nm_l_cells_right) ∈ tabsT T := List.mem_cons_self
theorem tu_l_cells_right {K : PySem.W.Frag} {mg : Str → Option Value} (T : Tx K mg) : ∀ p ∈ tabsT T, p.1 = T.pp_l_cells_right → p.2 = nm_l_cells_right := by
  intro p hp e
  simp only [tabsT, List.mem_cons, List.not_mem_nil, or_false] at hp
  rcases hp with rfl | rfl
  · rfl
  · exact absurd e (Ne.symm T.ne_l_cells_right_law10)
theorem tc_law10 {K : PySem.W.Frag} {mg : Str → Option Value} (T : Tx K mg) : (T.cc_law10, T.pp_law10) ∈ csT T := (List.mem_cons_of_mem _ List.mem_cons_self)
theorem tm_law10 {K : PySem.W.Frag} {mg : Str → Option Value} (T : Tx K mg) : (T.pp_law10, nm_law10) ∈ tabsT T := (List.mem_cons_of_mem _ List.mem_cons_self)
theorem tu_law10 {K : PySem.W.Frag} {mg : Str → Option Value} (T : Tx K mg) : ∀ p ∈ tabsT T, p.1 = T.pp_law10 → p.2 = nm_law10 := by
  intro p hp e
  simp only [tabsT, List.mem_cons, List.not_mem_nil, or_false] at hp
  rcases hp with rfl | rfl
  · exact absurd e T.ne_l_cells_right_law10
  · rfl
open PySem.Spec PyProof.Rows LamX NdefX
section
variable {P : Program} {w : World} {K : PySem.W.Frag} {mg : Str → Option Value} {base : Heap}
set_option maxHeartbeats 4000000 in
theorem ok_is_whole (T : Tx K mg) : FnOk P w K mg base CX0 1 T.f_is_whole T.fd_is_whole ["thing"] (sp_is_whole K) := by
  refine T.F_is_whole.ok sc_is_whole (fun vs H Q E h => by obtain ⟨_, _, rfl, _⟩ := h; rfl) (fun cdv A outer s H vs Q E hr h => ⟨t_is_whole K, ?_, pure_is_whole rfl h⟩)
  exact (pss_one (ps_ret (pe_and (pe_callB call_isi (by rfl) T.n_isinstance (by decide +kernel) (pa_cons (pv 0) (pa_cons (pe_bltn (v := .ty "int") (by rfl) T.n_int (by decide +kernel) rfl) pa_nil))) (pe_one (pe_not (pe_callB call_isi (by rfl) T.n_isinstance (by decide +kernel) (pa_cons (pv 0) (pa_cons (pe_bltn (v := .ty "bool") (by rfl) T.n_bool (by decide +kernel) rfl) pa_nil))))))))
set_option maxHeartbeats 4000000 in
theorem ok_check_grid (T : Tx K mg) : FnOk P w K mg base (L2.CX P w) 2 T.f_check_grid T.fd_check_grid ["grid"] (sp_check_grid K T.C) := by
  refine T.F_check_grid.okX sc_check_grid (fun vs H Q E h => by obtain ⟨_, rfl, _⟩ := h; rfl) (fun cdv A outer s H vs Q E hr h => ⟨t_check_grid K T.C E, ?_, pure_check_grid rfl h⟩)
  exact (pss_one (ps_if (PW.pt (pw_or (pt_not (pt_val (pe_callB call_isi (by rfl) T.n_isinstance (by decide +kernel) (pa_cons (pv 0) (pa_cons (pe_bltn (v := .ty "tuple") (by rfl) T.n_tuple (by decide +kernel) rfl) pa_nil))))) (pw_or (pt_cmpR op_ne (pe_callB call_len_seq (by rfl) T.n_len (by decide +kernel) (pa_cons (pv 0) pa_nil)) pe_int (nomark _)) (pw_or1 (pt_not (pt_val (pe_callB (cr_all rfl) (by rfl) T.n_all (by decide +kernel) (pa_cons (pe_lc (own := [("one", 1)]) (g := (gName 1)) (tt := tYes) (te := (tAndV (tCall (sp_is_whole K) [] E0 (tCons (tVar 1) tNil)) (tChain oLe oLe (tC (.int 1)) (tVar 1) (tC (.int 6))))) rfl sc_check_grid.nd (pi_tup (pv 0)) (blkOk_by (own := [("one", 1)]) (by kernel_rfl)) (fun _ _ _ _ _ => (pg_name (i := 1) sc_check_grid.nd rfl (.inl rfl))) (fun _ _ _ _ _ => pts_nil) (fun _ _ _ _ _ => (pe_and (pe_call (ok_is_whole T) (hr.mono (by decide)) rfl T.g_is_whole T.F_is_whole.kp T.b_is_whole .nil pass0 (pa_cons (pv 1) pa_nil)) (pe_one (pe_chain op_le op_le pe_int (pv 1) (pe_glob rfl T.g_MOST ⟨_, rfl⟩)))))) pa_nil)))))))) (pss_one (ps_raise rfl (takes_of rfl rfl rfl rfl) (pmk_own PySem.F.excBase_ValueError T.x_BadGrid T.g_BadGrid T.k_BadGrid (raises_own T.e_BadGrid T.y_BadGrid) (by rfl)))) pss_nil))
set_option maxHeartbeats 4000000 in
theorem ok_check_cells (T : Tx K mg) : FnOk P w K mg base (L2.CX P w) 2 T.f_check_cells T.fd_check_cells ["grid", "cells"] (sp_check_cells K T.C) := by
  refine T.F_check_cells.okX sc_check_cells (fun vs H Q E h => by obtain ⟨_, _, _, _, rfl, _⟩ := h; rfl) (fun cdv A outer s H vs Q E hr h => ⟨t_check_cells K T.C E, ?_, pure_check_cells rfl h⟩)
  exact (pss_cons (ps_set (i := 2) sc_check_cells.nd rfl (.inr rfl) (pe_op op_mul (pe_ix ix_tup (pv 0) pe_int (fun _ _ => rfl)) (pe_ix ix_tup (pv 0) pe_int (fun _ _ => rfl))))
      (pss_cons (ps_if (PW.pt (pw_or (pt_not (pt_val (pe_callB call_isi (by rfl) T.n_isinstance (by decide +kernel) (pa_cons (pv 1) (pa_cons (pe_bltn (v := .ty "list") (by rfl) T.n_list (by decide +kernel) rfl) pa_nil))))) (pw_or (pt_cmpR (op_eqD hr.units) (pv 1) (pe_lst pa_nil) (nomark _)) (pw_or1 (pt_not (pt_val (pe_callB (cr_all rfl) (by rfl) T.n_all (by decide +kernel) (pa_cons (pe_lc (own := [("one", 3)]) (g := (gName 3)) (tt := tYes) (te := (tAndV (tCall (sp_is_whole K) [] E0 (tCons (tVar 3) tNil)) (tChain oLe oLt (tC (.int 0)) (tVar 3) (tVar 2)))) rfl sc_check_cells.nd (pi_list (pv 1)) (blkOk_by (own := [("one", 3)]) (by kernel_rfl)) (fun _ _ _ _ _ => (pg_name (i := 3) sc_check_cells.nd rfl (.inl rfl))) (fun _ _ _ _ _ => pts_nil) (fun _ _ _ _ _ => (pe_and (pe_call (ok_is_whole T) (hr.mono (by decide)) rfl T.g_is_whole T.F_is_whole.kp T.b_is_whole .nil pass0 (pa_cons (pv 3) pa_nil)) (pe_one (pe_chain op_le op_lt pe_int (pv 3) (pv 2)))))) pa_nil)))))))) (pss_one (ps_raise rfl (takes_of rfl rfl rfl rfl) (pmk_own PySem.F.excBase_ValueError T.x_BadCells T.g_BadCells T.k_BadCells (raises_own T.e_BadCells T.y_BadCells) (by rfl)))) pss_nil)
      (pss_one (ps_if (pt_val (pe_callB (cr_any rfl) (by rfl) T.n_any (by decide +kernel) (pa_cons (pe_lc (own := [("one", 3), ("other", 4)]) (g := (gTup K 2 (gCons (gName 3) (gCons (gName 4) gNil)))) (tt := tYes) (te := (tOp oGe (tVar 3) (tVar 4))) rfl sc_check_cells.nd (pi_zip (by rfl) T.n_zip (pa_cons (pv 1) (pa_cons (pe_slice sl_list (pv 1) (po_some pe_int) po_none) pa_nil))) (blkOk_by (own := [("one", 3), ("other", 4)]) (by kernel_rfl)) (fun _ _ _ _ _ => (pg_tup rfl (pgs_cons (pg_name (i := 3) sc_check_cells.nd rfl (.inl rfl)) (pgs_cons (pg_name (i := 4) sc_check_cells.nd rfl (.inl rfl)) pgs_nil)))) (fun _ _ _ _ _ => pts_nil) (fun _ _ _ _ _ => (pe_cmpR op_ge (pv 3) (pv 4) (nomark _)))) pa_nil))) (pss_one (ps_raise rfl (takes_of rfl rfl rfl rfl) (pmk_own PySem.F.excBase_ValueError T.x_BadCells T.g_BadCells T.k_BadCells (raises_own T.e_BadCells T.y_BadCells) (by rfl)))) pss_nil))))
set_option maxHeartbeats 4000000 in
theorem ok_beside (T : Tx K mg) : FnOk P w K mg base CX0 1 T.f_beside T.fd_beside ["grid", "cell"] (sp_beside K) := by
  refine T.F_beside.ok sc_beside (fun vs H Q E h => by obtain ⟨_, _, _, _, rfl, _⟩ := h; rfl) (fun cdv A outer s H vs Q E hr h => ⟨t_beside K, ?_, pure_beside rfl h⟩)
  exact (pss_cons (ps_asg (pv 0) (pg_tup rfl (pgs_cons (pg_name (i := 2) sc_beside.nd rfl (.inl rfl)) (pgs_cons (pg_name (i := 3) sc_beside.nd rfl (.inl rfl)) pgs_nil))))
      (pss_cons (ps_set (i := 4) sc_beside.nd rfl (.inl rfl) (pe_lst pa_nil))
      (pss_cons (ps_if (pt_cmpR op_ge (pv 1) (pv 3) (nomark _)) (pss_one (ps_expr (pe_bm PySem.F.plainAttrs_list PySem.F.slot_list_append PySem.F.type_list_append mt_append (pv 4) (pa_cons (pe_op op_sub (pv 1) (pv 3)) pa_nil)))) pss_nil)
      (pss_cons (ps_if (pt_cmpR op_gt (pe_op op_mod (pv 1) (pv 3)) pe_int (nomark _)) (pss_one (ps_expr (pe_bm PySem.F.plainAttrs_list PySem.F.slot_list_append PySem.F.type_list_append mt_append (pv 4) (pa_cons (pe_op op_sub (pv 1) pe_int) pa_nil)))) pss_nil)
      (pss_cons (ps_if (pt_cmpR op_lt (pe_op op_mod (pv 1) (pv 3)) (pe_op op_sub (pv 3) pe_int) (nomark _)) (pss_one (ps_expr (pe_bm PySem.F.plainAttrs_list PySem.F.slot_list_append PySem.F.type_list_append mt_append (pv 4) (pa_cons (pe_op op_add (pv 1) pe_int) pa_nil)))) pss_nil)
      (pss_cons (ps_if (pt_cmpR op_lt (pv 1) (pe_op op_mul (pv 3) (pe_op op_sub (pv 2) pe_int)) (nomark _)) (pss_one (ps_expr (pe_bm PySem.F.plainAttrs_list PySem.F.slot_list_append PySem.F.type_list_append mt_append (pv 4) (pa_cons (pe_op op_add (pv 1) (pv 3)) pa_nil)))) pss_nil)
      (pss_one (ps_ret (pv 4)))))))))
set_option maxHeartbeats 4000000 in
theorem ok_sides_of (T : Tx K mg) : FnOk P w K mg base CX0 2 T.f_sides_of T.fd_sides_of ["grid", "cells", "cell"] (sp_sides_of K) := by
  refine T.F_sides_of.ok sc_sides_of (fun vs H Q E h => by obtain ⟨_, _, _, _, _, _, rfl, _⟩ := h; rfl) (fun cdv A outer s H vs Q E hr h => ⟨t_sides_of K, ?_, pure_sides_of rfl h⟩)
  exact (pss_cons (ps_set (i := 3) sc_sides_of.nd rfl (.inl rfl) (pe_callB call_len_seq (by rfl) T.n_len (by decide +kernel) (pa_cons (pe_lc (own := [("one", 4)]) (g := (gName 4)) (tt := (tTest (tOp (rIn K false) (tVar 4) (tVar 1)))) (te := (tVar 4)) rfl sc_sides_of.nd (pi_list (pe_call (ok_beside T) (hr.mono (by decide)) rfl T.g_beside T.F_beside.kp T.b_beside .nil pass0 (pa_cons (pv 0) (pa_cons (pv 2) pa_nil)))) (blkOk_by (own := [("one", 4)]) (by kernel_rfl)) (fun _ _ _ _ _ => (pg_name (i := 4) sc_sides_of.nd rfl (.inl rfl))) (fun _ _ _ _ _ => (pts_one (pt_cmpR op_in_seq (pv 4) (pv 1) (by rfl)))) (fun _ _ _ _ _ => (pv 4))) pa_nil)))
      (pss_one (ps_ret (pe_ifExp (pt_cmpR op_in_seq (pv 2) (pv 1) (by rfl)) (pe_op op_sub pe_int (pv 3)) (pv 3)))))
set_option maxHeartbeats 4000000 in
theorem ok_numbers_of (T : Tx K mg) : FnOk P w K mg base CX0 3 T.f_numbers_of T.fd_numbers_of ["grid", "cells"] (sp_numbers_of K) := by
  refine T.F_numbers_of.ok sc_numbers_of (fun vs H Q E h => by obtain ⟨_, _, _, _, _, rfl, _⟩ := h; rfl) (fun cdv A outer s H vs Q E hr h => ⟨t_numbers_of K, ?_, pure_numbers_of rfl h⟩)
  exact (pss_cons (ps_asg (pv 0) (pg_tup rfl (pgs_cons (pg_name (i := 2) sc_numbers_of.nd rfl (.inl rfl)) (pgs_cons (pg_name (i := 3) sc_numbers_of.nd rfl (.inr rfl)) pgs_nil))))
      (pss_one (ps_ret (pe_lc (own := [("row", 4)]) (g := (gName 4)) (tt := tYes) (te := (tLc (iRng1 (tCons (tVar 3) tNil)) (gName 5) tYes (tCall (sp_sides_of K) [] E0 (tCons (tVar 0) (tCons (tVar 1) (tCons (tOp oAdd (tOp oMul (tVar 4) (tVar 3)) (tVar 5)) tNil)))) [5])) rfl sc_numbers_of.nd (pi_range1 rfl T.n_range (pa_cons (pv 2) pa_nil)) (blkOk_by (own := [("row", 4)]) (by kernel_rfl)) (fun _ _ _ _ _ => (pg_name (i := 4) sc_numbers_of.nd rfl (.inr rfl))) (fun _ _ _ _ _ => pts_nil) (fun _ _ _ _ _ => (pe_lc (own := [("at", 5)]) (g := (gName 5)) (tt := tYes) (te := (tCall (sp_sides_of K) [] E0 (tCons (tVar 0) (tCons (tVar 1) (tCons (tOp oAdd (tOp oMul (tVar 4) (tVar 3)) (tVar 5)) tNil))))) rfl sc_numbers_of.nd (pi_range1 rfl T.n_range (pa_cons (pv 3) pa_nil)) (blkOk_by (own := [("at", 5)]) (by kernel_rfl)) (fun _ _ _ _ _ => (pg_name (i := 5) sc_numbers_of.nd rfl (.inl rfl))) (fun _ _ _ _ _ => pts_nil) (fun _ _ _ _ _ => (pe_call (ok_sides_of T) (hr.mono (by decide)) rfl T.g_sides_of T.F_sides_of.kp T.b_sides_of .nil pass0 (pa_cons (pv 0) (pa_cons (pv 1) (pa_cons (pe_op op_add (pe_op op_mul (pv 4) (pv 3)) (pv 5)) pa_nil)))))))))))
set_option maxHeartbeats 4000000 in
theorem ok_numbers (T : Tx K mg) : FnOk P w K mg base (L2.CX P w) 4 T.f_numbers T.fd_numbers ["grid", "cells"] (sp_numbers K T.C) := by
  refine T.F_numbers.okX sc_numbers (fun vs H Q E h => by obtain ⟨_, _, rfl, _⟩ := h; rfl) (fun cdv A outer s H vs Q E hr h => ⟨t_numbers K T.C E, ?_, pure_numbers rfl h⟩)
  exact (pss_cons (ps_expr (pe_call (ok_check_grid T) (hr.mono (by decide)) rfl T.g_check_grid T.F_check_grid.kp T.b_check_grid .nil (passes_call (takes_of rfl rfl rfl rfl) (fun _ _ _ _ h => h)) (pa_cons (pv 0) pa_nil)))
      (pss_cons (ps_expr (pe_call (ok_check_cells T) (hr.mono (by decide)) rfl T.g_check_cells T.F_check_cells.kp T.b_check_cells .nil (passes_call (takes_of rfl rfl rfl rfl) (fun _ _ _ _ h => h)) (pa_cons (pv 0) (pa_cons (pv 1) pa_nil))))
      (pss_one (ps_ret (pe_call (ok_numbers_of T) (hr.mono (by decide)) rfl T.g_numbers_of T.F_numbers_of.kp T.b_numbers_of .nil pass0 (pa_cons (pv 0) (pa_cons (pv 1) pa_nil)))))))
set_option maxHeartbeats 4000000 in
theorem ok_spread (T : Tx K mg) : FnOk P w K mg base CX0 2 T.f_spread T.fd_spread ["grid", "first", "some"] (sp_spread K) := by
  refine T.F_spread.ok sc_spread (fun vs H Q E h => by obtain ⟨_, _, _, _, _, _, rfl, _⟩ := h; rfl) (fun cdv A outer s H vs Q E hr h => ⟨t_spread K, ?_, pure_spread rfl h⟩)
  exact (pss_cons (ps_asg (pe_tup (pa_cons (pe_lst (pa_cons (pv 1) pa_nil)) (pa_cons pe_int pa_nil))) (pg_tup rfl (pgs_cons (pg_name (i := 3) sc_spread.nd rfl (.inr rfl)) (pgs_cons (pg_name (i := 4) sc_spread.nd rfl (.inl rfl)) pgs_nil))))
      (pss_cons (ps_while PassesOwn.never (pt_cmpR op_lt (pv 4) (pe_callB call_len_seq (by rfl) T.n_len (by decide +kernel) (pa_cons (pv 3) pa_nil)) (nomark _)) (pss_cons (ps_expr (pe_bm PySem.F.plainAttrs_list PySem.F.slot_list_extend PySem.F.type_list_extend mt_extend (pv 3) (pa_cons (pe_lc (own := [("one", 5)]) (g := (gName 5)) (tt := (tAnd (tTest (tOp (rIn K false) (tVar 5) (tVar 2))) (tTest (tOp (rIn K true) (tVar 5) (tVar 3))))) (te := (tVar 5)) rfl sc_spread.nd (pi_list (pe_call (ok_beside T) (hr.mono (by decide)) rfl T.g_beside T.F_beside.kp T.b_beside .nil pass0 (pa_cons (pv 0) (pa_cons (pe_ix ix_list (pv 3) (pv 4) (fun _ _ => rfl)) pa_nil)))) (blkOk_by (own := [("one", 5)]) (by kernel_rfl)) (fun _ _ _ _ _ => (pg_name (i := 5) sc_spread.nd rfl (.inl rfl))) (fun _ _ _ _ _ => (pts_one (PW.pt (pw_and (pt_cmpR op_in_seq (pv 5) (pv 2) (by rfl)) (pw_and1 (pt_cmpR op_notIn_seq (pv 5) (pv 3) (by rfl))))))) (fun _ _ _ _ _ => (pv 5))) pa_nil)))
      (pss_one (ps_aug (i := 4) sc_spread.nd rfl (.inl rfl) pe_int ip_add))))
      (pss_one (ps_ret (pv 3)))))
set_option maxHeartbeats 4000000 in
theorem ok_is_inner (T : Tx K mg) : FnOk P w K mg base CX0 3 T.f_is_inner T.fd_is_inner ["grid", "cells", "cell"] (sp_is_inner K) := by
  refine T.F_is_inner.ok sc_is_inner (fun vs H Q E h => by obtain ⟨_, _, _, _, _, _, rfl, _⟩ := h; rfl) (fun cdv A outer s H vs Q E hr h => ⟨t_is_inner K, ?_, pure_is_inner rfl h⟩)
  exact (pss_cons (ps_asg (pv 0) (pg_tup rfl (pgs_cons (pg_name (i := 3) sc_is_inner.nd rfl (.inl rfl)) (pgs_cons (pg_name (i := 4) sc_is_inner.nd rfl (.inl rfl)) pgs_nil))))
      (pss_cons (ps_setLc (i := 5) (own := [("one", 6)]) (g := (gName 6)) (tt := (tTest (tOp (rIn K true) (tVar 6) (tVar 1)))) (te := (tVar 6)) rfl sc_is_inner.nd rfl rfl (sw_true rfl rfl rfl (by decide +kernel)) (pi_range1 rfl T.n_range (pa_cons (pe_op op_mul (pv 3) (pv 4)) pa_nil)) (blkOk_by (own := [("one", 6)]) (by kernel_rfl)) (fun _ _ _ _ _ => (pg_name (i := 6) sc_is_inner.nd rfl (.inl rfl))) (fun _ _ _ _ _ => (pts_one (pt_cmpR op_notIn_seq (pv 6) (pv 1) (by rfl)))) (fun _ _ _ _ _ => (pv 6)))
      (pss_cons (ps_for PassesOwn.never rfl (pi_list (pe_call (ok_spread T) (hr.mono (by decide)) rfl T.g_spread T.F_spread.kp T.b_spread .nil pass0 (pa_cons (pv 0) (pa_cons (pv 2) (pa_cons (pv 5) pa_nil))))) (pg_name (i := 6) sc_is_inner.nd rfl (.inl rfl)) (pss_one (ps_if (PW.pt (pw_or (pt_cmpR op_lt (pv 6) (pv 4) (nomark _)) (pw_or (pt_cmpR op_ge (pv 6) (pe_op op_mul (pv 4) (pe_op op_sub (pv 3) pe_int)) (nomark _)) (pw_or1 (pt_cmpR op_in_seq (pe_op op_mod (pv 6) (pv 4)) (pe_tup (pa_cons pe_int (pa_cons (pe_op op_sub (pv 4) pe_int) pa_nil))) (by rfl)))))) (pss_one (ps_ret pe_bl)) pss_nil)))
      (pss_one (ps_ret pe_bl)))))
set_option maxHeartbeats 4000000 in
theorem ok_first_inner (T : Tx K mg) : FnOk P w K mg base CX0 4 T.f_first_inner T.fd_first_inner ["grid", "cells"] (sp_first_inner K) := by
  refine T.F_first_inner.ok sc_first_inner (fun vs H Q E h => by obtain ⟨_, _, _, _, _, rfl, _⟩ := h; rfl) (fun cdv A outer s H vs Q E hr h => ⟨t_first_inner K, ?_, pure_first_inner rfl h⟩)
  exact (pss_cons (ps_for PassesOwn.never rfl (pi_range1 rfl T.n_range (pa_cons (pe_op op_mul (pe_ix ix_tup (pv 0) pe_int (fun _ _ => rfl)) (pe_ix ix_tup (pv 0) pe_int (fun _ _ => rfl))) pa_nil)) (pg_name (i := 2) sc_first_inner.nd rfl (.inl rfl)) (pss_one (ps_if (PW.pt (pw_and (pt_cmpR op_notIn_seq (pv 2) (pv 1) (by rfl)) (pw_and1 (pt_val (pe_call (ok_is_inner T) (hr.mono (by decide)) rfl T.g_is_inner T.F_is_inner.kp T.b_is_inner .nil pass0 (pa_cons (pv 0) (pa_cons (pv 1) (pa_cons (pv 2) pa_nil)))))))) (pss_one (ps_ret (pv 2))) pss_nil)))
      (pss_one (ps_ret pe_non)))
set_option maxHeartbeats 4000000 in
theorem ok_is_ring (T : Tx K mg) : FnOk P w K mg base CX0 5 T.f_is_ring T.fd_is_ring ["grid", "cells"] (sp_is_ring K) := by
  refine T.F_is_ring.ok sc_is_ring (fun vs H Q E h => by obtain ⟨_, _, _, _, _, rfl, _⟩ := h; rfl) (fun cdv A outer s H vs Q E hr h => ⟨t_is_ring K, ?_, pure_is_ring rfl h⟩)
  exact (pss_cons (ps_if (pt_cmpR op_lt (pe_callB call_len_seq (by rfl) T.n_len (by decide +kernel) (pa_cons (pe_call (ok_spread T) (hr.mono (by decide)) rfl T.g_spread T.F_spread.kp T.b_spread .nil pass0 (pa_cons (pv 0) (pa_cons (pe_ix ix_list (pv 1) pe_int (fun _ _ => rfl)) (pa_cons (pv 1) pa_nil)))) pa_nil)) (pe_callB call_len_seq (by rfl) T.n_len (by decide +kernel) (pa_cons (pv 1) pa_nil)) (nomark _)) (pss_one (ps_ret pe_bl)) pss_nil)
      (pss_one (ps_ret (pe_cmpR op_isN1 (pe_call (ok_first_inner T) (hr.mono (by decide)) rfl T.g_first_inner T.F_first_inner.kp T.b_first_inner .nil pass0 (pa_cons (pv 0) (pa_cons (pv 1) pa_nil))) pe_non (nomark _)))))
set_option maxHeartbeats 4000000 in
theorem ok_side_ahead (T : Tx K mg) : FnOk P w K mg base CX0 1 T.f_side_ahead T.fd_side_ahead ["grid", "cells", "point", "turn"] (sp_side_ahead K) := by
  refine T.F_side_ahead.ok sc_side_ahead (fun vs H Q E h => by obtain ⟨_, _, _, _, _, _, _, _, _, rfl, _⟩ := h; rfl) (fun cdv A outer s H vs Q E hr h => ⟨t_side_ahead K, ?_, pure_side_ahead rfl h⟩)
  exact (pss_cons (ps_asg (pv 0) (pg_tup rfl (pgs_cons (pg_name (i := 4) sc_side_ahead.nd rfl (.inl rfl)) (pgs_cons (pg_name (i := 5) sc_side_ahead.nd rfl (.inl rfl)) pgs_nil))))
      (pss_cons (ps_asg (pv 2) (pg_tup rfl (pgs_cons (pg_name (i := 6) sc_side_ahead.nd rfl (.inl rfl)) (pgs_cons (pg_name (i := 7) sc_side_ahead.nd rfl (.inl rfl)) pgs_nil))))
      (pss_cons (ps_set (i := 8) sc_side_ahead.nd rfl (.inl rfl) (pe_tup (pa_cons (pe_tup (pa_cons (pe_tup (pa_cons (pe_op op_sub (pv 6) pe_int) (pa_cons (pv 7) pa_nil))) (pa_cons (pe_tup (pa_cons (pv 6) (pa_cons (pv 7) pa_nil))) pa_nil))) (pa_cons (pe_tup (pa_cons (pe_tup (pa_cons (pv 6) (pa_cons (pv 7) pa_nil))) (pa_cons (pe_tup (pa_cons (pv 6) (pa_cons (pe_op op_sub (pv 7) pe_int) pa_nil))) pa_nil))) (pa_cons (pe_tup (pa_cons (pe_tup (pa_cons (pv 6) (pa_cons (pe_op op_sub (pv 7) pe_int) pa_nil))) (pa_cons (pe_tup (pa_cons (pe_op op_sub (pv 6) pe_int) (pa_cons (pe_op op_sub (pv 7) pe_int) pa_nil))) pa_nil))) (pa_cons (pe_tup (pa_cons (pe_tup (pa_cons (pe_op op_sub (pv 6) pe_int) (pa_cons (pe_op op_sub (pv 7) pe_int) pa_nil))) (pa_cons (pe_tup (pa_cons (pe_op op_sub (pv 6) pe_int) (pa_cons (pv 7) pa_nil))) pa_nil))) pa_nil))))))
      (pss_cons (ps_set (i := 9) sc_side_ahead.nd rfl (.inl rfl) (pe_lst pa_nil))
      (pss_cons (ps_for PassesOwn.never rfl (pi_tup (pe_ix ix_tup (pv 8) (pv 3) (fun _ _ => rfl))) (pg_tup rfl (pgs_cons (pg_name (i := 10) sc_side_ahead.nd rfl (.inl rfl)) (pgs_cons (pg_name (i := 11) sc_side_ahead.nd rfl (.inl rfl)) pgs_nil))) (pss_one (ps_expr (pe_bm PySem.F.plainAttrs_list PySem.F.slot_list_append PySem.F.type_list_append mt_append (pv 9) (pa_cons (pe_and (pe_chain op_le op_lt pe_int (pv 10) (pv 4)) (pe_and (pe_chain op_le op_lt pe_int (pv 11) (pv 5)) (pe_one (pe_cmpR op_in_seq (pe_op op_add (pe_op op_mul (pv 10) (pv 5)) (pv 11)) (pv 1) (by rfl))))) pa_nil)))))
      (pss_one (ps_ret (pe_cmpR op_ne (pe_ix ix_list (pv 9) pe_int (fun _ _ => rfl)) (pe_ix ix_list (pv 9) pe_int (fun _ _ => rfl)) (nomark _)))))))))
set_option maxHeartbeats 4000000 in
theorem ok_walk (T : Tx K mg) : FnOk P w K mg base (L2.CX P w) 6 T.f_walk T.fd_walk ["grid", "cells"] (sp_walk K T.C) := by
  refine T.F_walk.okX sc_walk (fun vs H Q E h => by obtain ⟨_, _, rfl, _⟩ := h; rfl) (fun cdv A outer s H vs Q E hr h => ⟨t_walk K T.C E, ?_, pure_walk rfl h⟩)
  exact (pss_cons (ps_expr (pe_call (ok_check_grid T) (hr.mono (by decide)) rfl T.g_check_grid T.F_check_grid.kp T.b_check_grid .nil (passes_call (takes_of rfl rfl rfl rfl) (fun _ _ _ _ h => h)) (pa_cons (pv 0) pa_nil)))
      (pss_cons (ps_expr (pe_call (ok_check_cells T) (hr.mono (by decide)) rfl T.g_check_cells T.F_check_cells.kp T.b_check_cells .nil (passes_call (takes_of rfl rfl rfl rfl) (fun _ _ _ _ h => h)) (pa_cons (pv 0) (pa_cons (pv 1) pa_nil))))
      (pss_cons (ps_if (pt_not (pt_val (pe_call (ok_is_ring T) (hr.mono (by decide)) rfl T.g_is_ring T.F_is_ring.kp T.b_is_ring .nil pass0 (pa_cons (pv 0) (pa_cons (pv 1) pa_nil))))) (pss_one (ps_raise rfl (takes_of rfl rfl rfl rfl) (pmk_own PySem.F.excBase_ValueError T.x_NoRing T.g_NoRing T.k_NoRing (raises_own T.e_NoRing T.y_NoRing) (by rfl)))) pss_nil)
      (pss_cons (ps_set (i := 2) sc_walk.nd rfl (.inl rfl) (pe_tup (pa_cons (pe_op op_fdiv (pe_ix ix_list (pv 1) pe_int (fun _ _ => rfl)) (pe_ix ix_tup (pv 0) pe_int (fun _ _ => rfl))) (pa_cons (pe_op op_mod (pe_ix ix_list (pv 1) pe_int (fun _ _ => rfl)) (pe_ix ix_tup (pv 0) pe_int (fun _ _ => rfl))) pa_nil))))
      (pss_cons (ps_set (i := 3) sc_walk.nd rfl (.inl rfl) (pe_tup (pa_cons (pe_tup (pa_cons pe_int (pa_cons pe_int pa_nil))) (pa_cons (pe_tup (pa_cons pe_int (pa_cons pe_int pa_nil))) (pa_cons (pe_tup (pa_cons pe_int (pa_cons (pe_un un_neg pe_int) pa_nil))) (pa_cons (pe_tup (pa_cons (pe_un un_neg pe_int) (pa_cons pe_int pa_nil))) pa_nil))))))
      (pss_cons (ps_par (i := 4) (j := 5) (by rfl) sc_walk.nd rfl rfl (by decide) rfl rfl (pa_cons (pe_lst (pa_cons (pv 2) pa_nil)) (pa_cons pe_int pa_nil)) (by rfl))
      (pss_cons (ps_set (i := 6) sc_walk.nd rfl (.inr rfl) (pe_tup (pa_cons (pe_ix ix_tup (pv 2) pe_int (fun _ _ => rfl)) (pa_cons (pe_op op_add (pe_ix ix_tup (pv 2) pe_int (fun _ _ => rfl)) pe_int) pa_nil))))
      (pss_cons (ps_while (passes_of rfl) (pt_cmpR (op_neD hr.units) (pv 6) (pv 2) (nomark _)) (pss_cons (ps_expr (pe_bm PySem.F.plainAttrs_list PySem.F.slot_list_append PySem.F.type_list_append mt_append (pv 4) (pa_cons (pv 6) pa_nil)))
      (pss_cons (ps_set (i := 7) sc_walk.nd rfl (.inr rfl) (pe_op op_mod (pe_op op_add (pv 5) pe_int) pe_int))
      (pss_cons (ps_set (i := 5) sc_walk.nd rfl (.inl rfl) (pe_ix ix_list (pe_lc (own := [("way", 8)]) (g := (gName 8)) (tt := (tAnd (tTest (tOp rNe (tVar 8) (tVar 7))) (tB (tCall (sp_side_ahead K) [] E0 (tCons (tVar 0) (tCons (tVar 1) (tCons (tVar 6) (tCons (tVar 8) tNil)))))))) (te := (tVar 8)) rfl sc_walk.nd (pi_range1 rfl T.n_range (pa_cons pe_int pa_nil)) (blkOk_by (own := [("way", 8)]) (by kernel_rfl)) (fun _ _ _ _ _ => (pg_name (i := 8) sc_walk.nd rfl (.inl rfl))) (fun _ _ _ _ _ => (pts_one (PW.pt (pw_and (pt_cmpR op_ne (pv 8) (pv 7) (nomark _)) (pw_and1 (pt_val (pe_call (ok_side_ahead T) (hr.mono (by decide)) rfl T.g_side_ahead T.F_side_ahead.kp T.b_side_ahead .nil pass0 (pa_cons (pv 0) (pa_cons (pv 1) (pa_cons (pv 6) (pa_cons (pv 8) pa_nil))))))))))) (fun _ _ _ _ _ => (pv 8))) pe_int (fun _ _ => rfl)))
      (pss_one (ps_set (i := 6) sc_walk.nd rfl (.inr rfl) (pe_tup (pa_cons (pe_op op_add (pe_ix ix_tup (pv 6) pe_int (fun _ _ => rfl)) (pe_ix ix_tup (pe_ix ix_tup (pv 3) (pv 5) (fun _ _ => rfl)) pe_int (fun _ _ => rfl))) (pa_cons (pe_op op_add (pe_ix ix_tup (pv 6) pe_int (fun _ _ => rfl)) (pe_ix ix_tup (pe_ix ix_tup (pv 3) (pv 5) (fun _ _ => rfl)) pe_int (fun _ _ => rfl))) pa_nil)))))))))
      (pss_one (ps_ret (pv 4)))))))))))
set_option maxHeartbeats 4000000 in
theorem ok_Split_init (T : Tx K mg) : FnOk P w K mg base CX0 1 T.f_Split_init T.fd_Split_init ["self", "one", "other"] (sp_Split_init K T.C) := by
  refine T.F_Split_init.ok sc_Split_init (fun vs H Q E h => by obtain ⟨_, _, _, _, rfl, _⟩ := h; rfl) (fun cdv A outer s H vs Q E hr h => ⟨t_Split_init K, ?_, pure_Split_init rfl T.cf_Split h⟩)
  exact (pss_cons (ps_fld (pv 0) (pv 1) rfl)
      (pss_one (ps_fld (pv 0) (pv 2) rfl)))
set_option maxHeartbeats 4000000 in
theorem ok_Hole_init (T : Tx K mg) : FnOk P w K mg base CX0 1 T.f_Hole_init T.fd_Hole_init ["self", "cell"] (sp_Hole_init K T.C) := by
  refine T.F_Hole_init.ok sc_Hole_init (fun vs H Q E h => by obtain ⟨_, _, _, rfl, _⟩ := h; rfl) (fun cdv A outer s H vs Q E hr h => ⟨t_Hole_init K, ?_, pure_Hole_init rfl T.cf_Hole h⟩)
  exact (pss_one (ps_fld (pv 0) (pv 1) rfl))
set_option maxHeartbeats 4000000 in
theorem ok_judged (T : Tx K mg) : FnOk P w K mg base (L2.CX P w) 5 T.f_judged T.fd_judged ["grid", "cells"] (sp_judged K T.C) := by
  refine T.F_judged.okX sc_judged (fun vs H Q E h => by obtain ⟨_, _, rfl, _⟩ := h; rfl) (fun cdv A outer s H vs Q E hr h => ⟨t_judged K T.C E, ?_, pure_judged rfl h⟩)
  exact (pss_cons (ps_expr (pe_call (ok_check_grid T) (hr.mono (by decide)) rfl T.g_check_grid T.F_check_grid.kp T.b_check_grid .nil (passes_call (takes_of rfl rfl rfl rfl) (fun _ _ _ _ h => h)) (pa_cons (pv 0) pa_nil)))
      (pss_cons (ps_expr (pe_call (ok_check_cells T) (hr.mono (by decide)) rfl T.g_check_cells T.F_check_cells.kp T.b_check_cells .nil (passes_call (takes_of rfl rfl rfl rfl) (fun _ _ _ _ h => h)) (pa_cons (pv 0) (pa_cons (pv 1) pa_nil))))
      (pss_cons (ps_set (i := 2) sc_judged.nd rfl (.inr rfl) (pe_call (ok_spread T) (hr.mono (by decide)) rfl T.g_spread T.F_spread.kp T.b_spread .nil pass0 (pa_cons (pv 0) (pa_cons (pe_ix ix_list (pv 1) pe_int (fun _ _ => rfl)) (pa_cons (pv 1) pa_nil)))))
      (pss_cons (ps_if (pt_cmpR op_lt (pe_callB call_len_seq (by rfl) T.n_len (by decide +kernel) (pa_cons (pv 2) pa_nil)) (pe_callB call_len_seq (by rfl) T.n_len (by decide +kernel) (pa_cons (pv 1) pa_nil)) (nomark _)) (pss_one (ps_ret (pe_make T.m_Split (ok_Split_init T) (hr.mono (by decide)) (by rfl) T.g_Split T.b_Split_init .nil pass0 (pa_cons (pe_ix ix_list (pv 1) pe_int (fun _ _ => rfl)) (pa_cons (pe_ix ix_list (pe_lc (own := [("cell", 4)]) (g := (gName 4)) (tt := (tTest (tOp (rIn K true) (tVar 4) (tVar 2)))) (te := (tVar 4)) rfl sc_judged.nd (pi_list (pv 1)) (blkOk_by (own := [("cell", 4)]) (by kernel_rfl)) (fun _ _ _ _ _ => (pg_name (i := 4) sc_judged.nd rfl (.inl rfl))) (fun _ _ _ _ _ => (pts_one (pt_cmpR op_notIn_seq (pv 4) (pv 2) (by rfl)))) (fun _ _ _ _ _ => (pv 4))) pe_int (fun _ _ => rfl)) pa_nil))))) pss_nil)
      (pss_cons (ps_set (i := 3) sc_judged.nd rfl (.inl rfl) (pe_call (ok_first_inner T) (hr.mono (by decide)) rfl T.g_first_inner T.F_first_inner.kp T.b_first_inner .nil pass0 (pa_cons (pv 0) (pa_cons (pv 1) pa_nil))))
      (pss_one (ps_ret (pe_ifExp (pt_cmpR op_isN1 (pv 3) pe_non (nomark _)) (pe_bare T.m_Ring (by rfl) T.g_Ring) (pe_make T.m_Hole (ok_Hole_init T) (hr.mono (by decide)) (by rfl) T.g_Hole T.b_Hole_init .nil pass0 (pa_cons (pv 3) pa_nil))))))))))
set_option maxHeartbeats 4000000 in
theorem ok_Ring_shows (T : Tx K mg) : FnOk P w K mg base CX0 6 T.f_Ring_shows T.fd_Ring_shows ["self", "grid", "cells"] (sp_Ring_shows K) := by
  refine T.F_Ring_shows.ok sc_Ring_shows (fun vs H Q E h => by obtain ⟨_, _, _, _, _, _, rfl, _⟩ := h; rfl) (fun cdv A outer s H vs Q E hr h => ⟨t_Ring_shows K, ?_, pure_Ring_shows rfl h⟩)
  exact (pss_one (ps_ret (pe_call (ok_is_ring T) (hr.mono (by decide)) rfl T.g_is_ring T.F_is_ring.kp T.b_is_ring .nil pass0 (pa_cons (pv 1) (pa_cons (pv 2) pa_nil)))))
set_option maxHeartbeats 4000000 in
theorem ok_Split_shows (T : Tx K mg) : FnOk P w K mg base CX0 3 T.f_Split_shows T.fd_Split_shows ["self", "grid", "cells"] (sp_Split_shows K T.C) := by
  refine T.F_Split_shows.ok sc_Split_shows (fun vs H Q E h => by obtain ⟨_, _, _, _, _, _, _, _, _, rfl, _⟩ := h; rfl) (fun cdv A outer s H vs Q E hr h => ⟨t_Split_shows K, ?_, pure_Split_shows rfl T.cf_Split h⟩)
  exact (pss_cons (ps_if (PW.pt (pw_or (pt_cmpR op_notIn_seq (pe_fld (pv 0) rfl) (pv 2) (by rfl)) (pw_or1 (pt_cmpR op_notIn_seq (pe_fld (pv 0) rfl) (pv 2) (by rfl))))) (pss_one (ps_ret pe_bl)) pss_nil)
      (pss_one (ps_ret (pe_cmpR op_notIn_seq (pe_fld (pv 0) rfl) (pe_call (ok_spread T) (hr.mono (by decide)) rfl T.g_spread T.F_spread.kp T.b_spread .nil pass0 (pa_cons (pv 1) (pa_cons (pe_fld (pv 0) rfl) (pa_cons (pv 2) pa_nil)))) (by rfl)))))
set_option maxHeartbeats 4000000 in
theorem ok_Hole_shows (T : Tx K mg) : FnOk P w K mg base CX0 4 T.f_Hole_shows T.fd_Hole_shows ["self", "grid", "cells"] (sp_Hole_shows K T.C) := by
  refine T.F_Hole_shows.ok sc_Hole_shows (fun vs H Q E h => by obtain ⟨_, _, _, _, _, _, _, _, rfl, _⟩ := h; rfl) (fun cdv A outer s H vs Q E hr h => ⟨t_Hole_shows K, ?_, pure_Hole_shows rfl T.cf_Hole h⟩)
  exact (pss_cons (ps_if (PW.pt (pw_or (pt_cmpR op_in_seq (pe_fld (pv 0) rfl) (pv 2) (by rfl)) (pw_or1 (pt_not (pt_chain op_le op_lt pe_int (pe_fld (pv 0) rfl) (pe_op op_mul (pe_ix ix_tup (pv 1) pe_int (fun _ _ => rfl)) (pe_ix ix_tup (pv 1) pe_int (fun _ _ => rfl)))))))) (pss_one (ps_ret pe_bl)) pss_nil)
      (pss_one (ps_ret (pe_call (ok_is_inner T) (hr.mono (by decide)) rfl T.g_is_inner T.F_is_inner.kp T.b_is_inner .nil pass0 (pa_cons (pv 1) (pa_cons (pv 2) (pa_cons (pe_fld (pv 0) rfl) pa_nil)))))))
set_option maxHeartbeats 4000000 in
theorem llm_l_cells_right_0 (T : Tx K mg) (f c : Addr) (cl : List (Str × Addr)) : LOk P w K mg base (L2.CX P w) 5 f (lamsT.lm_l_cells_right_0.atc cl c) ["_law_some"] ["_law_grid"] (sp_lm_l_cells_right_0 K T.C) := by
  refine lok_of (N := ["_law_some", "_law_grid"]) (NdefX.nscope_by (sc := lamsT.lm_l_cells_right_0.scope) (by decide +kernel)) (fun pm ctv us hl => match us, hl with | [_], _ => rfl) (fun ws vs H Q E h => by obtain ⟨_, rfl, _⟩ := h; rfl) (fun A outer s H vs ws Q E hr hws h => ⟨t_lm_l_cells_right_0 K T.C E, ?_, pure_lm_l_cells_right_0 rfl h⟩)
  exact (pe_call (ok_numbers T) (hr.mono (by decide)) rfl T.g_numbers T.F_numbers.kp T.b_numbers .nil (passes_call (takes_of rfl rfl rfl rfl) (fun _ _ _ _ h => h)) (pa_cons (pv 1) (pa_cons (pv 0) pa_nil)))
set_option maxHeartbeats 4000000 in
theorem llm_l_cells_right_1 (T : Tx K mg) (f c : Addr) (cl : List (Str × Addr)) : LOk P w K mg base (L2.CX P w) 7 f (lamsT.lm_l_cells_right_1.atc cl c) ["_law_some"] ["_law_grid"] (sp_lm_l_cells_right_1 K T.C) := by
  refine lok_of (N := ["_law_some", "_law_grid"]) (NdefX.nscope_by (sc := lamsT.lm_l_cells_right_1.scope) (by decide +kernel)) (fun pm ctv us hl => match us, hl with | [_], _ => rfl) (fun ws vs H Q E h => by obtain ⟨_, rfl, _⟩ := h; rfl) (fun A outer s H vs ws Q E hr hws h => ⟨t_lm_l_cells_right_1 K T.C E, ?_, pure_lm_l_cells_right_1 rfl h⟩)
  exact (pe_call (ok_walk T) (hr.mono (by decide)) rfl T.g_walk T.F_walk.kp T.b_walk .nil (passes_call (takes_of rfl rfl rfl rfl) (fun _ _ _ _ h => h)) (pa_cons (pv 1) (pa_cons (pv 0) pa_nil)))
set_option maxHeartbeats 4000000 in
theorem llm_l_cells_right_2 (T : Tx K mg) (f c : Addr) (cl : List (Str × Addr)) : LOk P w K mg base (L2.CX P w) 7 f (lamsT.lm_l_cells_right_2.atc cl c) ["_law_some"] ["_law_grid", "_law_one"] (sp_lm_l_cells_right_2 K T.C) := by
  refine lok_of (N := ["_law_some", "_law_grid", "_law_one"]) (NdefX.nscope_by (sc := lamsT.lm_l_cells_right_2.scope) (by decide +kernel)) (fun pm ctv us hl => match us, hl with | [_], _ => rfl) (fun ws vs H Q E h => by obtain ⟨_, rfl, _⟩ := h; rfl) (fun A outer s H vs ws Q E hr hws h => ⟨t_lm_l_cells_right_2 K T.C E, ?_, pure_lm_l_cells_right_2 rfl h⟩)
  exact (pe_lst (pa_cons (pe_alt (pe_meth (pe_call (ok_judged T) (hr.mono (by decide)) rfl T.g_judged T.F_judged.kp T.b_judged .nil (passes_call (takes_of rfl rfl rfl rfl) (fun _ _ _ _ h => h)) (pa_cons (pv 1) (pa_cons (pv 0) pa_nil))) T.cl_Ring T.mt_Ring_shows (ok_Ring_shows T) (hr.mono (by decide)) T.b_Ring_shows .nil pass0 (pa_cons (pv 1) (pa_cons (pv 2) pa_nil))) (pe_alt (pe_meth (pe_call (ok_judged T) (hr.mono (by decide)) rfl T.g_judged T.F_judged.kp T.b_judged .nil (passes_call (takes_of rfl rfl rfl rfl) (fun _ _ _ _ h => h)) (pa_cons (pv 1) (pa_cons (pv 0) pa_nil))) T.cl_Split T.mt_Split_shows (ok_Split_shows T) (hr.mono (by decide)) T.b_Split_shows .nil pass0 (pa_cons (pv 1) (pa_cons (pv 2) pa_nil))) (pe_meth (pe_call (ok_judged T) (hr.mono (by decide)) rfl T.g_judged T.F_judged.kp T.b_judged .nil (passes_call (takes_of rfl rfl rfl rfl) (fun _ _ _ _ h => h)) (pa_cons (pv 1) (pa_cons (pv 0) pa_nil))) T.cl_Hole T.mt_Hole_shows (ok_Hole_shows T) (hr.mono (by decide)) T.b_Hole_shows .nil pass0 (pa_cons (pv 1) (pa_cons (pv 2) pa_nil))))) pa_nil))
theorem heldDoor (T : Tx K mg) : ∀ f F fr sp, RDoor K T.C lamsT F fr sp → ∃ ps, LOk P w K mg base (L2.CX P w) 7 f F ps fr sp := by
  intro f F fr sp h
  rcases h with ⟨c, cl, rfl, rfl, rfl⟩ | ⟨c, cl, rfl, rfl, rfl⟩ | ⟨c, cl, rfl, rfl, rfl⟩
  · exact ⟨_, (llm_l_cells_right_0 T f c cl).mono (by decide)⟩
  · exact ⟨_, (llm_l_cells_right_1 T f c cl).mono (by decide)⟩
  · exact ⟨_, (llm_l_cells_right_2 T f c cl).mono (by decide)⟩
set_option maxHeartbeats 4000000 in
theorem ok_l_door_right (T : Tx K mg) : FnL P w K mg base CX0 8 T.f_l_door_right T.fd_l_door_right ["_law_ask", "_law_one", "_law_other"] (sp_l_door_right K T.C lamsT) := by
  refine Sd.Fun.okL T.F_l_door_right sc_l_door_right (fun c vs H Q E h => by obtain ⟨_, _, _, rfl, _⟩ := h; rfl) (fun cdv A outer s H vs c Q E hr CA h => ⟨t_l_door_right K T.C lamsT c, ?_, pure_l_door_right rfl rfl h⟩)
  exact (pss_cons (ps_set (i := 3) sc_l_door_right.nd rfl (.inl rfl) (pe_callTy call_list_of (by rfl) T.n_list (by decide +kernel) (pa_cons (pv 1) pa_nil)))
      (pss_cons (ps_set (i := 4) sc_l_door_right.nd rfl (.inl rfl) (pe_callLc (i := 0) (c := c) (heldDoor T) (hr.mono (by decide)) CA rfl rfl (by first | exact Or.inl rfl | exact Or.inr (Or.inl rfl) | exact Or.inr (Or.inr rfl)) (fun σ => passLAt) (pa_cons (pv 3) pa_nil)))
      (pss_cons (ps_if (pt_cmpR (op_neD hr.units) (pv 3) (pv 1) (nomark _)) (pss_one (ps_ret pe_bl)) pss_nil)
      (pss_cons (ps_set (i := 5) sc_l_door_right.nd rfl (.inl rfl) (pe_callTy call_list_of (by rfl) T.n_list (by decide +kernel) (pa_cons (pv 4) pa_nil)))
      (pss_cons (ps_expr (pe_bm PySem.F.plainAttrs_list PySem.F.slot_list_append PySem.F.type_list_append mt_append (pv 4) (pa_cons pe_int pa_nil)))
      (pss_cons (ps_expr (pe_bm0 PySem.F.plainAttrs_list PySem.F.slot_list_reverse PySem.F.type_list_reverse mt_reverse (pv 4)))
      (pss_cons (ps_if (pt_cmpR (op_neD hr.units) (pe_callLc (i := 0) (c := c) (heldDoor T) (hr.mono (by decide)) CA rfl rfl (by first | exact Or.inl rfl | exact Or.inr (Or.inl rfl) | exact Or.inr (Or.inr rfl)) (fun σ => passLAt) (pa_cons (pv 3) pa_nil)) (pv 5) (nomark _)) (pss_one (ps_ret pe_bl)) pss_nil)
      (pss_cons (ps_for PassesOwn.never rfl (pi_enum (by rfl) T.n_enumerate (pa_cons (pv 2) pa_nil)) (pg_tup rfl (pgs_cons (pg_name (i := 6) sc_l_door_right.nd rfl (.inl rfl)) (pgs_cons (pg_name (i := 7) sc_l_door_right.nd rfl (.inl rfl)) pgs_nil))) (pss_one (ps_asg (pv 7) (pg_sub (pv 3) (pv 6) set_list))))
      (pss_cons (ps_if (PW.pt (pw_or (pt_cmpR (op_neD hr.units) (pe_callLc (i := 0) (c := c) (heldDoor T) (hr.mono (by decide)) CA rfl rfl (by first | exact Or.inl rfl | exact Or.inr (Or.inl rfl) | exact Or.inr (Or.inr rfl)) (fun σ => passLAt) (pa_cons (pv 3) pa_nil)) (pe_callLc (i := 0) (c := c) (heldDoor T) (hr.mono (by decide)) CA rfl rfl (by first | exact Or.inl rfl | exact Or.inr (Or.inl rfl) | exact Or.inr (Or.inr rfl)) (fun σ => passLAt) (pa_cons (pe_callTy call_list_of (by rfl) T.n_list (by decide +kernel) (pa_cons (pv 2) pa_nil)) pa_nil)) (nomark _)) (pw_or1 (pt_cmpR (op_neD hr.units) (pv 3) (pv 2) (nomark _))))) (pss_one (ps_ret pe_bl)) pss_nil)
      (pss_cons (ps_for PassesOwn.never rfl (pi_enum (by rfl) T.n_enumerate (pa_cons (pv 1) pa_nil)) (pg_tup rfl (pgs_cons (pg_name (i := 6) sc_l_door_right.nd rfl (.inl rfl)) (pgs_cons (pg_name (i := 7) sc_l_door_right.nd rfl (.inl rfl)) pgs_nil))) (pss_one (ps_asg (pv 7) (pg_sub (pv 3) (pv 6) set_list))))
      (pss_one (ps_ret (pe_and (pe_cmpR (op_eqD hr.units) (pe_callLc (i := 0) (c := c) (heldDoor T) (hr.mono (by decide)) CA rfl rfl (by first | exact Or.inl rfl | exact Or.inr (Or.inl rfl) | exact Or.inr (Or.inr rfl)) (fun σ => passLAt) (pa_cons (pv 3) pa_nil)) (pv 5) (nomark _)) (pe_one (pe_cmpR (op_eqD hr.units) (pv 3) (pv 1) (nomark _))))))))))))))))
set_option maxHeartbeats 4000000 in
theorem ok_l_cells_right (T : Tx K mg) (tb : ∀ p ∈ csT T, LamX.TabB base mg p.1 p.2) : FnOk P w K mg base CX0 9 T.f_l_cells_right T.fd_l_cells_right ["_law_high", "_law_wide", "_law_many", "_law_at"] (sp_l_cells_right (tabsT T)) := by
  refine Sd.Fun.okC T.F_l_cells_right T.hcd_l_cells_right sc_l_cells_right (fun vs H Q E h => by obtain ⟨_, _, _, rfl, _⟩ := h; rfl) (fun A outer s H vs Q E hr h => ⟨t_l_cells_right K T.C lamsT (tabsT T) (cloFrom (envOfC "_law_cells_right" (defScope s_l_cells_right) s.heap.objs.size T.f_l_cells_right (.ref T.cc_l_cells_right)).cells lamsT.lm_l_cells_right_0.scope.names []) (cloFrom (envOfC "_law_cells_right" (defScope s_l_cells_right) s.heap.objs.size T.f_l_cells_right (.ref T.cc_l_cells_right)).cells lamsT.lm_l_cells_right_1.scope.names []) (cloFrom (envOfC "_law_cells_right" (defScope s_l_cells_right) s.heap.objs.size T.f_l_cells_right (.ref T.cc_l_cells_right)).cells lamsT.lm_l_cells_right_2.scope.names []), ?_, pure_l_cells_right rfl rfl T.ci_Ring T.ki_Ring_Ring h⟩)
  exact (pss_cons (ps_set (i := 4) sc_l_cells_right.nd rfl (.inr rfl) (pe_tup (pa_cons (pv 0) (pa_cons (pv 1) pa_nil))))
      (pss_cons (ps_asg (pe_tup (pa_cons (pe_lc (own := [("_law_place", 8)]) (g := (gName 8)) (tt := tYes) (te := (tOp oAdd (tVar 3) (tVar 8))) rfl sc_l_cells_right.nd (pi_range1 rfl T.n_range (pa_cons (pv 2) pa_nil)) (blkOk_by (own := [("_law_place", 8)]) (by kernel_rfl)) (fun _ _ _ _ _ => (pg_name (i := 8) sc_l_cells_right.nd rfl (.inl rfl))) (fun _ _ _ _ _ => pts_nil) (fun _ _ _ _ _ => (pe_op op_add (pv 3) (pv 8)))) (pa_cons (pe_lc (own := [("_law_place", 8)]) (g := (gName 8)) (tt := tYes) (te := (tOp oAdd (tOp oAdd (tVar 3) (tVar 1)) (tVar 8))) rfl sc_l_cells_right.nd (pi_range1 rfl T.n_range (pa_cons (pv 2) pa_nil)) (blkOk_by (own := [("_law_place", 8)]) (by kernel_rfl)) (fun _ _ _ _ _ => (pg_name (i := 8) sc_l_cells_right.nd rfl (.inl rfl))) (fun _ _ _ _ _ => pts_nil) (fun _ _ _ _ _ => (pe_op op_add (pe_op op_add (pv 3) (pv 1)) (pv 8)))) pa_nil))) (pg_tup rfl (pgs_cons (pg_name (i := 5) sc_l_cells_right.nd rfl (.inr rfl)) (pgs_cons (pg_name (i := 6) sc_l_cells_right.nd rfl (.inl rfl)) pgs_nil))))
      (pss_cons (ps_if (pt_not (pt_val (pe_callL (js := [4]) (fr := ["_law_grid"]) (cl := (cloFrom (envOfC "_law_cells_right" (defScope s_l_cells_right) s.heap.objs.size T.f_l_cells_right (.ref T.cc_l_cells_right)).cells lamsT.lm_l_cells_right_0.scope.names [])) (ok_l_door_right T) (hr.mono (by decide)) rfl T.g_l_door_right T.F_l_door_right.kp T.b_l_door_right (caps_of (sc := defScope s_l_cells_right) (scope := lamsT.lm_l_cells_right_0.scope) (by decide +kernel) rfl rfl rfl) pass0 (pa_cons (pe_lambC (L := lamsT.lm_l_cells_right_0) (cl := (cloFrom (envOfC "_law_cells_right" (defScope s_l_cells_right) s.heap.objs.size T.f_l_cells_right (.ref T.cc_l_cells_right)).cells lamsT.lm_l_cells_right_0.scope.names [])) (tb _ (tc_l_cells_right T)) rfl (tm_l_cells_right T) (tu_l_cells_right T) (by rfl) rfl (NdefX.ndef_free (sc := defScope s_l_cells_right) (nsc := lamsT.lm_l_cells_right_0.scope) (fr := ["_law_grid"]) (by decide +kernel)) (by rfl) rfl) (pa_cons (pv 5) (pa_cons (pv 6) pa_nil)))))) (pss_one (ps_ret pe_bl)) pss_nil)
      (pss_cons (ps_if (pt_not (pt_val (pe_callB call_isi (by rfl) T.n_isinstance (by decide +kernel) (pa_cons (pe_call (ok_judged T) (hr.mono (by decide)) rfl T.g_judged T.F_judged.kp T.b_judged .nil passL (pa_cons (pv 4) (pa_cons (pv 5) pa_nil))) (pa_cons (pe_glob rfl T.g_Ring rfl) pa_nil))))) (pss_one (ps_ret pe_bl)) pss_nil)
      (pss_cons (ps_if (pt_not (pt_val (pe_callL (js := [4]) (fr := ["_law_grid"]) (cl := (cloFrom (envOfC "_law_cells_right" (defScope s_l_cells_right) s.heap.objs.size T.f_l_cells_right (.ref T.cc_l_cells_right)).cells lamsT.lm_l_cells_right_1.scope.names [])) (ok_l_door_right T) (hr.mono (by decide)) rfl T.g_l_door_right T.F_l_door_right.kp T.b_l_door_right (caps_of (sc := defScope s_l_cells_right) (scope := lamsT.lm_l_cells_right_1.scope) (by decide +kernel) rfl rfl rfl) pass0 (pa_cons (pe_lambC (L := lamsT.lm_l_cells_right_1) (cl := (cloFrom (envOfC "_law_cells_right" (defScope s_l_cells_right) s.heap.objs.size T.f_l_cells_right (.ref T.cc_l_cells_right)).cells lamsT.lm_l_cells_right_1.scope.names [])) (tb _ (tc_l_cells_right T)) rfl (tm_l_cells_right T) (tu_l_cells_right T) (by rfl) rfl (NdefX.ndef_free (sc := defScope s_l_cells_right) (nsc := lamsT.lm_l_cells_right_1.scope) (fr := ["_law_grid"]) (by decide +kernel)) (by rfl) rfl) (pa_cons (pv 5) (pa_cons (pv 6) pa_nil)))))) (pss_one (ps_ret pe_bl)) pss_nil)
      (pss_cons (ps_if (pt_not (pt_val (pe_callL (js := [4, 5]) (fr := ["_law_grid", "_law_one"]) (cl := (cloFrom (envOfC "_law_cells_right" (defScope s_l_cells_right) s.heap.objs.size T.f_l_cells_right (.ref T.cc_l_cells_right)).cells lamsT.lm_l_cells_right_2.scope.names [])) (ok_l_door_right T) (hr.mono (by decide)) rfl T.g_l_door_right T.F_l_door_right.kp T.b_l_door_right (caps_of (sc := defScope s_l_cells_right) (scope := lamsT.lm_l_cells_right_2.scope) (by decide +kernel) rfl rfl rfl) pass0 (pa_cons (pe_lambC (L := lamsT.lm_l_cells_right_2) (cl := (cloFrom (envOfC "_law_cells_right" (defScope s_l_cells_right) s.heap.objs.size T.f_l_cells_right (.ref T.cc_l_cells_right)).cells lamsT.lm_l_cells_right_2.scope.names [])) (tb _ (tc_l_cells_right T)) rfl (tm_l_cells_right T) (tu_l_cells_right T) (by rfl) rfl (NdefX.ndef_free (sc := defScope s_l_cells_right) (nsc := lamsT.lm_l_cells_right_2.scope) (fr := ["_law_grid", "_law_one"]) (by decide +kernel)) (by rfl) rfl) (pa_cons (pv 5) (pa_cons (pv 6) pa_nil)))))) (pss_one (ps_ret pe_bl)) pss_nil)
      (pss_cons (ps_set (i := 7) sc_l_cells_right.nd rfl (.inl rfl) (pe_call (ok_numbers T) (hr.mono (by decide)) rfl T.g_numbers T.F_numbers.kp T.b_numbers .nil passL (pa_cons (pv 4) (pa_cons (pv 5) pa_nil))))
      (pss_cons (ps_expr (pe_bm PySem.F.plainAttrs_list PySem.F.slot_list_append PySem.F.type_list_append mt_append (pe_ix ix_list (pv 7) pe_int (fun _ _ => rfl)) (pa_cons pe_int pa_nil)))
      (pss_cons (ps_asg pe_int (pg_sub (pe_ix ix_list (pv 7) (pe_un un_neg pe_int) (fun _ _ => rfl)) pe_int set_list))
      (pss_one (ps_ret (pe_and (pe_cmpR (op_eqD hr.units) (pe_call (ok_numbers T) (hr.mono (by decide)) rfl T.g_numbers T.F_numbers.kp T.b_numbers .nil passL (pa_cons (pv 4) (pa_cons (pv 5) pa_nil))) (pe_call (ok_numbers T) (hr.mono (by decide)) rfl T.g_numbers T.F_numbers.kp T.b_numbers .nil passL (pa_cons (pv 4) (pa_cons (pe_callTy call_list_of (by rfl) T.n_list (by decide +kernel) (pa_cons (pv 5) pa_nil)) pa_nil))) (nomark _)) (pe_one (pe_cmpR op_notIn_seq pe_int (pe_ix ix_list (pe_call (ok_numbers T) (hr.mono (by decide)) rfl T.g_numbers T.F_numbers.kp T.b_numbers .nil passL (pa_cons (pv 4) (pa_cons (pv 5) pa_nil))) (pe_un un_neg pe_int) (fun _ _ => rfl)) (by rfl)))))))))))))))
set_option maxHeartbeats 4000000 in
theorem ok_l_apart_right (T : Tx K mg) : FnOk P w K mg base CX0 7 T.f_l_apart_right T.fd_l_apart_right ["_law_high", "_law_wide"] (sp_l_apart_right K T.C) := by
  refine T.F_l_apart_right.ok sc_l_apart_right (fun vs H Q E h => by obtain ⟨_, _, rfl, _⟩ := h; rfl) (fun cdv A outer s H vs Q E hr h => ⟨t_l_apart_right K T.C, ?_, pure_l_apart_right rfl rfl T.ci_Ring T.ci_Split T.ki_Ring_Ring T.ki_Split_Ring T.ki_Ring_Split T.ki_Split_Split h⟩)
  exact (pss_cons (ps_par (i := 2) (j := 3) (by rfl) sc_l_apart_right.nd rfl rfl (by decide) rfl rfl (pa_cons (pe_tup (pa_cons (pv 0) (pa_cons (pv 1) pa_nil))) (pa_cons (pe_lst (pa_cons pe_int (pa_cons (pe_op op_mul pe_int (pv 1)) pa_nil))) pa_nil)) (by rfl))
      (pss_cons (ps_set (i := 4) sc_l_apart_right.nd rfl (.inl rfl) (pe_call (ok_judged T) (hr.mono (by decide)) rfl T.g_judged T.F_judged.kp T.b_judged .nil passL (pa_cons (pv 2) (pa_cons (pv 3) pa_nil))))
      (pss_cons (ps_if (PW.pt (pw_or (pt_not (pt_val (pe_callB call_isi (by rfl) T.n_isinstance (by decide +kernel) (pa_cons (pv 4) (pa_cons (pe_glob rfl T.g_Split rfl) pa_nil))))) (pw_or1 (pt_cmpR (op_neD hr.units) (pv 3) (pe_lst (pa_cons pe_int (pa_cons (pe_op op_mul pe_int (pv 1)) pa_nil))) (nomark _))))) (pss_one (ps_ret pe_bl)) pss_nil)
      (pss_cons (ps_asg (pv 1) (pg_sub (pv 3) pe_int set_list))
      (pss_cons (ps_if (PW.pt (pw_or (pt_not (pt_val (pe_callB call_isi (by rfl) T.n_isinstance (by decide +kernel) (pa_cons (pe_call (ok_judged T) (hr.mono (by decide)) rfl T.g_judged T.F_judged.kp T.b_judged .nil passL (pa_cons (pv 2) (pa_cons (pv 3) pa_nil))) (pa_cons (pe_glob rfl T.g_Ring rfl) pa_nil))))) (pw_or1 (pt_cmpR op_notBl (pe_alt (pe_meth (pv 4) T.cl_Ring T.mt_Ring_shows (ok_Ring_shows T) (hr.mono (by decide)) T.b_Ring_shows .nil pass0 (pa_cons (pv 2) (pa_cons (pv 3) pa_nil))) (pe_alt (pe_meth (pv 4) T.cl_Split T.mt_Split_shows (ok_Split_shows T) (hr.mono (by decide)) T.b_Split_shows .nil pass0 (pa_cons (pv 2) (pa_cons (pv 3) pa_nil))) (pe_meth (pv 4) T.cl_Hole T.mt_Hole_shows (ok_Hole_shows T) (hr.mono (by decide)) T.b_Hole_shows .nil pass0 (pa_cons (pv 2) (pa_cons (pv 3) pa_nil))))) pe_bl (nomark _))))) (pss_one (ps_ret pe_bl)) pss_nil)
      (pss_cons (ps_asg (pe_op op_mul pe_int (pv 1)) (pg_sub (pv 3) pe_int set_list))
      (pss_one (ps_ret (pe_and (pe_callB call_isi (by rfl) T.n_isinstance (by decide +kernel) (pa_cons (pe_call (ok_judged T) (hr.mono (by decide)) rfl T.g_judged T.F_judged.kp T.b_judged .nil passL (pa_cons (pv 2) (pa_cons (pv 3) pa_nil))) (pa_cons (pe_glob rfl T.g_Split rfl) pa_nil))) (pe_one (pe_cmpR op_isBl (pe_alt (pe_meth (pv 4) T.cl_Ring T.mt_Ring_shows (ok_Ring_shows T) (hr.mono (by decide)) T.b_Ring_shows .nil pass0 (pa_cons (pv 2) (pa_cons (pv 3) pa_nil))) (pe_alt (pe_meth (pv 4) T.cl_Split T.mt_Split_shows (ok_Split_shows T) (hr.mono (by decide)) T.b_Split_shows .nil pass0 (pa_cons (pv 2) (pa_cons (pv 3) pa_nil))) (pe_meth (pv 4) T.cl_Hole T.mt_Hole_shows (ok_Hole_shows T) (hr.mono (by decide)) T.b_Hole_shows .nil pass0 (pa_cons (pv 2) (pa_cons (pv 3) pa_nil))))) pe_bl (nomark _))))))))))))
set_option maxHeartbeats 4000000 in
theorem ok_l_copied (T : Tx K mg) : FnOk P w K mg base CX0 1 T.f_l_copied T.fd_l_copied ["_law_rows"] (sp_l_copied K) := by
  refine T.F_l_copied.ok sc_l_copied (fun vs H Q E h => by obtain ⟨_, _, rfl, _⟩ := h; rfl) (fun cdv A outer s H vs Q E hr h => ⟨t_l_copied K, ?_, pure_l_copied rfl rfl h⟩)
  exact (pss_one (ps_ret (pe_lc (own := [("_law_row", 1)]) (g := (gName 1)) (tt := tYes) (te := (tCB (rListS K) (tCons (tVar 1) tNil))) rfl sc_l_copied.nd (pi_list (pv 0)) (blkOk_by (own := [("_law_row", 1)]) (by kernel_rfl)) (fun _ _ _ _ _ => (pg_name (i := 1) sc_l_copied.nd rfl (.inl rfl))) (fun _ _ _ _ _ => pts_nil) (fun _ _ _ _ _ => (pe_callTy call_list_of (by rfl) T.n_list (by decide +kernel) (pa_cons (pv 1) pa_nil))))))
set_option maxHeartbeats 4000000 in
theorem ok_check_clues (T : Tx K mg) : FnOk P w K mg base (L2.CX P w) 2 T.f_check_clues T.fd_check_clues ["clues"] (sp_check_clues K T.C) := by
  refine T.F_check_clues.okX sc_check_clues (fun vs H Q E h => by obtain ⟨_, rfl, _⟩ := h; rfl) (fun cdv A outer s H vs Q E hr h => ⟨t_check_clues K T.C E, ?_, pure_check_clues rfl h⟩)
  exact (pss_cons (ps_if (PW.pt (pw_or (pt_not (pt_val (pe_callB call_isi (by rfl) T.n_isinstance (by decide +kernel) (pa_cons (pv 0) (pa_cons (pe_bltn (v := .ty "list") (by rfl) T.n_list (by decide +kernel) rfl) pa_nil))))) (pw_or (pt_not (pt_chain op_le op_le pe_int (pe_callB call_len_seq (by rfl) T.n_len (by decide +kernel) (pa_cons (pv 0) pa_nil)) (pe_glob rfl T.g_MOST ⟨_, rfl⟩))) (pw_or1 (pt_not (pt_val (pe_callB (cr_all rfl) (by rfl) T.n_all (by decide +kernel) (pa_cons (pe_lc (own := [("row", 2)]) (g := (gName 2)) (tt := tYes) (te := (tCB (rIsi K) (tCons (tVar 2) (tCons (tC (.ty "list")) tNil)))) rfl sc_check_clues.nd (pi_list (pv 0)) (blkOk_by (own := [("row", 2)]) (by kernel_rfl)) (fun _ _ _ _ _ => (pg_name (i := 2) sc_check_clues.nd rfl (.inl rfl))) (fun _ _ _ _ _ => pts_nil) (fun _ _ _ _ _ => (pe_callB call_isi (by rfl) T.n_isinstance (by decide +kernel) (pa_cons (pv 2) (pa_cons (pe_bltn (v := .ty "list") (by rfl) T.n_list (by decide +kernel) rfl) pa_nil))))) pa_nil)))))))) (pss_one (ps_raise rfl (takes_of rfl rfl rfl rfl) (pmk_own PySem.F.excBase_ValueError T.x_BadClues T.g_BadClues T.k_BadClues (raises_own T.e_BadClues T.y_BadClues) (by rfl)))) pss_nil)
      (pss_cons (ps_set (i := 1) sc_check_clues.nd rfl (.inr rfl) (pe_callB call_len_seq (by rfl) T.n_len (by decide +kernel) (pa_cons (pe_ix ix_list (pv 0) pe_int (fun _ _ => rfl)) pa_nil)))
      (pss_cons (ps_if (PW.pt (pw_or (pt_not (pt_chain op_le op_le pe_int (pv 1) (pe_glob rfl T.g_MOST ⟨_, rfl⟩))) (pw_or (pt_cmpR op_gt (pe_op op_mul (pe_callB call_len_seq (by rfl) T.n_len (by decide +kernel) (pa_cons (pv 0) pa_nil)) (pv 1)) (pe_glob rfl T.g_FEW ⟨_, rfl⟩) (nomark _)) (pw_or1 (pt_not (pt_val (pe_callB (cr_all rfl) (by rfl) T.n_all (by decide +kernel) (pa_cons (pe_lc (own := [("row", 2)]) (g := (gName 2)) (tt := tYes) (te := (tOp rEq (tCB (rLenS K) (tCons (tVar 2) tNil)) (tVar 1))) rfl sc_check_clues.nd (pi_list (pv 0)) (blkOk_by (own := [("row", 2)]) (by kernel_rfl)) (fun _ _ _ _ _ => (pg_name (i := 2) sc_check_clues.nd rfl (.inl rfl))) (fun _ _ _ _ _ => pts_nil) (fun _ _ _ _ _ => (pe_cmpR op_eq (pe_callB call_len_seq (by rfl) T.n_len (by decide +kernel) (pa_cons (pv 2) pa_nil)) (pv 1) (nomark _)))) pa_nil)))))))) (pss_one (ps_raise rfl (takes_of rfl rfl rfl rfl) (pmk_own PySem.F.excBase_ValueError T.x_BadClues T.g_BadClues T.k_BadClues (raises_own T.e_BadClues T.y_BadClues) (by rfl)))) pss_nil)
      (pss_one (ps_if (pt_not (pt_val (pe_callB (cr_all rfl) (by rfl) T.n_all (by decide +kernel) (pa_cons (pe_lc (own := [("row", 2)]) (g := (gName 2)) (tt := tYes) (te := (tCB (rAll K) (tCons (tLc (iList K (tVar 2)) (gName 3) tYes (tAndV (tCall (sp_is_whole K) [] E0 (tCons (tVar 3) tNil)) (tChain oLe oLe (tUn oNeg (tC (.int 1))) (tVar 3) (tC (.int 4)))) [3]) tNil))) rfl sc_check_clues.nd (pi_list (pv 0)) (blkOk_by (own := [("row", 2)]) (by kernel_rfl)) (fun _ _ _ _ _ => (pg_name (i := 2) sc_check_clues.nd rfl (.inl rfl))) (fun _ _ _ _ _ => pts_nil) (fun _ _ _ _ _ => (pe_callB (cr_all rfl) (by rfl) T.n_all (by decide +kernel) (pa_cons (pe_lc (own := [("clue", 3)]) (g := (gName 3)) (tt := tYes) (te := (tAndV (tCall (sp_is_whole K) [] E0 (tCons (tVar 3) tNil)) (tChain oLe oLe (tUn oNeg (tC (.int 1))) (tVar 3) (tC (.int 4))))) rfl sc_check_clues.nd (pi_list (pv 2)) (blkOk_by (own := [("clue", 3)]) (by kernel_rfl)) (fun _ _ _ _ _ => (pg_name (i := 3) sc_check_clues.nd rfl (.inl rfl))) (fun _ _ _ _ _ => pts_nil) (fun _ _ _ _ _ => (pe_and (pe_call (ok_is_whole T) (hr.mono (by decide)) rfl T.g_is_whole T.F_is_whole.kp T.b_is_whole .nil pass0 (pa_cons (pv 3) pa_nil)) (pe_one (pe_chain op_le op_le (pe_un un_neg pe_int) (pv 3) pe_int))))) pa_nil)))) pa_nil)))) (pss_one (ps_raise rfl (takes_of rfl rfl rfl rfl) (pmk_own PySem.F.excBase_ValueError T.x_BadClues T.g_BadClues T.k_BadClues (raises_own T.e_BadClues T.y_BadClues) (by rfl)))) pss_nil)))))
set_option maxHeartbeats 4000000 in
theorem ok_all_rings (T : Tx K mg) : FnOk P w K mg base CX0 6 T.f_all_rings T.fd_all_rings ["grid"] (sp_all_rings K) := by
  refine T.F_all_rings.ok sc_all_rings (fun vs H Q E h => by obtain ⟨_, _, _, rfl, _⟩ := h; rfl) (fun cdv A outer s H vs Q E hr h => ⟨t_all_rings K, ?_, pure_all_rings rfl h⟩)
  exact (pss_cons (ps_par (i := 1) (j := 2) (by rfl) sc_all_rings.nd rfl rfl (by decide) rfl rfl (pa_cons (pe_op op_mul (pe_ix ix_tup (pv 0) pe_int (fun _ _ => rfl)) (pe_ix ix_tup (pv 0) pe_int (fun _ _ => rfl))) (pa_cons (pe_lst pa_nil) pa_nil)) (by rfl))
      (pss_cons (ps_for PassesOwn.never rfl (pi_range2 rfl T.n_range (pa_cons pe_int (pa_cons (pe_op op_shl pe_int (pv 1)) pa_nil))) (pg_name (i := 3) sc_all_rings.nd rfl (.inr rfl)) (pss_cons (ps_setLc (i := 4) (own := [("cell", 5)]) (g := (gName 5)) (tt := (tTest (tOp rEq (tOp oAnd (tOp oShr (tVar 3) (tVar 5)) (tC (.int 1))) (tC (.int 1))))) (te := (tVar 5)) rfl sc_all_rings.nd rfl rfl (sw_true rfl rfl rfl (by decide +kernel)) (pi_range1 rfl T.n_range (pa_cons (pv 1) pa_nil)) (blkOk_by (own := [("cell", 5)]) (by kernel_rfl)) (fun _ _ _ _ _ => (pg_name (i := 5) sc_all_rings.nd rfl (.inl rfl))) (fun _ _ _ _ _ => (pts_one (pt_cmpR op_eq (pe_op op_and (pe_op op_shr (pv 3) (pv 5)) pe_int) pe_int (nomark _)))) (fun _ _ _ _ _ => (pv 5)))
      (pss_one (ps_if (pt_val (pe_call (ok_is_ring T) (hr.mono (by decide)) rfl T.g_is_ring T.F_is_ring.kp T.b_is_ring .nil pass0 (pa_cons (pv 0) (pa_cons (pv 4) pa_nil)))) (pss_one (ps_expr (pe_bm PySem.F.plainAttrs_list PySem.F.slot_list_append PySem.F.type_list_append mt_append (pv 2) (pa_cons (pv 4) pa_nil)))) pss_nil))))
      (pss_one (ps_ret (pe_callB (cr_sortV (enc := dI) hr.units) (by rfl) T.n_sorted (by decide +kernel) (pa_cons (pv 2) pa_nil))))))
set_option maxHeartbeats 4000000 in
theorem ok_fits (T : Tx K mg) : FnOk P w K mg base CX0 4 T.f_fits T.fd_fits ["clues", "cells"] (sp_fits K) := by
  refine T.F_fits.ok sc_fits (fun vs H Q E h => by obtain ⟨_, _, _, _, rfl, _⟩ := h; rfl) (fun cdv A outer s H vs Q E hr h => ⟨t_fits K, ?_, pure_fits rfl h⟩)
  exact (pss_cons (ps_set (i := 2) sc_fits.nd rfl (.inl rfl) (pe_call (ok_numbers_of T) (hr.mono (by decide)) rfl T.g_numbers_of T.F_numbers_of.kp T.b_numbers_of .nil pass0 (pa_cons (pe_tup (pa_cons (pe_callB call_len_seq (by rfl) T.n_len (by decide +kernel) (pa_cons (pv 0) pa_nil)) (pa_cons (pe_callB call_len_seq (by rfl) T.n_len (by decide +kernel) (pa_cons (pe_ix ix_list (pv 0) pe_int (fun _ _ => rfl)) pa_nil)) pa_nil))) (pa_cons (pv 1) pa_nil))))
      (pss_cons (ps_for PassesOwn.never rfl (pi_zip (by rfl) T.n_zip (pa_cons (pv 0) (pa_cons (pv 2) pa_nil))) (pg_tup rfl (pgs_cons (pg_name (i := 3) sc_fits.nd rfl (.inl rfl)) (pgs_cons (pg_name (i := 4) sc_fits.nd rfl (.inl rfl)) pgs_nil))) (pss_one (ps_if (pt_val (pe_callB (cr_any rfl) (by rfl) T.n_any (by decide +kernel) (pa_cons (pe_lc (own := [("clue", 5), ("number", 6)]) (g := (gTup K 2 (gCons (gName 5) (gCons (gName 6) gNil)))) (tt := tYes) (te := (tAndV (tOp oGe (tVar 5) (tC (.int 0))) (tOp rNe (tVar 5) (tVar 6)))) rfl sc_fits.nd (pi_zip (by rfl) T.n_zip (pa_cons (pv 3) (pa_cons (pv 4) pa_nil))) (blkOk_by (own := [("clue", 5), ("number", 6)]) (by kernel_rfl)) (fun _ _ _ _ _ => (pg_tup rfl (pgs_cons (pg_name (i := 5) sc_fits.nd rfl (.inl rfl)) (pgs_cons (pg_name (i := 6) sc_fits.nd rfl (.inl rfl)) pgs_nil)))) (fun _ _ _ _ _ => pts_nil) (fun _ _ _ _ _ => (pe_and (pe_cmpR op_ge (pv 5) pe_int (nomark _)) (pe_one (pe_cmpR op_ne (pv 5) (pv 6) (nomark _)))))) pa_nil))) (pss_one (ps_ret pe_bl)) pss_nil)))
      (pss_one (ps_ret pe_bl))))
set_option maxHeartbeats 4000000 in
theorem ok_fitting_of (T : Tx K mg) : FnOk P w K mg base CX0 7 T.f_fitting_of T.fd_fitting_of ["clues"] (sp_fitting_of K) := by
  refine T.F_fitting_of.ok sc_fitting_of (fun vs H Q E h => by obtain ⟨_, _, rfl, _⟩ := h; rfl) (fun cdv A outer s H vs Q E hr h => ⟨t_fitting_of K, ?_, pure_fitting_of rfl h⟩)
  exact (pss_one (ps_ret (pe_lc (own := [("cells", 1)]) (g := (gName 1)) (tt := (tB (tCall (sp_fits K) [] E0 (tCons (tVar 0) (tCons (tVar 1) tNil))))) (te := (tVar 1)) rfl sc_fitting_of.nd (pi_list (pe_call (ok_all_rings T) (hr.mono (by decide)) rfl T.g_all_rings T.F_all_rings.kp T.b_all_rings .nil pass0 (pa_cons (pe_tup (pa_cons (pe_callB call_len_seq (by rfl) T.n_len (by decide +kernel) (pa_cons (pv 0) pa_nil)) (pa_cons (pe_callB call_len_seq (by rfl) T.n_len (by decide +kernel) (pa_cons (pe_ix ix_list (pv 0) pe_int (fun _ _ => rfl)) pa_nil)) pa_nil))) pa_nil))) (blkOk_by (own := [("cells", 1)]) (by kernel_rfl)) (fun _ _ _ _ _ => (pg_name (i := 1) sc_fitting_of.nd rfl (.inl rfl))) (fun _ _ _ _ _ => (pts_one (pt_val (pe_call (ok_fits T) (hr.mono (by decide)) rfl T.g_fits T.F_fits.kp T.b_fits .nil pass0 (pa_cons (pv 0) (pa_cons (pv 1) pa_nil)))))) (fun _ _ _ _ _ => (pv 1)))))
set_option maxHeartbeats 4000000 in
theorem ok_fitting (T : Tx K mg) : FnOk P w K mg base (L2.CX P w) 8 T.f_fitting T.fd_fitting ["clues"] (sp_fitting K T.C) := by
  refine T.F_fitting.okX sc_fitting (fun vs H Q E h => by obtain ⟨_, rfl, _⟩ := h; rfl) (fun cdv A outer s H vs Q E hr h => ⟨t_fitting K T.C E, ?_, pure_fitting rfl h⟩)
  exact (pss_cons (ps_expr (pe_call (ok_check_clues T) (hr.mono (by decide)) rfl T.g_check_clues T.F_check_clues.kp T.b_check_clues .nil (passes_call (takes_of rfl rfl rfl rfl) (fun _ _ _ _ h => h)) (pa_cons (pv 0) pa_nil)))
      (pss_one (ps_ret (pe_call (ok_fitting_of T) (hr.mono (by decide)) rfl T.g_fitting_of T.F_fitting_of.kp T.b_fitting_of .nil pass0 (pa_cons (pv 0) pa_nil)))))
set_option maxHeartbeats 4000000 in
theorem llm_law10_0 (T : Tx K mg) (f c : Addr) (cl : List (Str × Addr)) : LOk P w K mg base (L2.CX P w) 9 f (lamsT.lm_law10_0.atc cl c) ["_law_rows"] [] (sp_lm_law10_0 K T.C) := by
  refine lok_of (N := ["_law_rows"]) (NdefX.nscope_by (sc := lamsT.lm_law10_0.scope) (by decide +kernel)) (fun pm ctv us hl => match us, hl with | [_], _ => rfl) (fun ws vs H Q E h => by obtain ⟨_, rfl, _⟩ := h; rfl) (fun A outer s H vs ws Q E hr hws h => ⟨t_lm_law10_0 K T.C E, ?_, pure_lm_law10_0 rfl h⟩)
  exact (pe_call (ok_fitting T) (hr.mono (by decide)) rfl T.g_fitting T.F_fitting.kp T.b_fitting .nil (passes_call (takes_of rfl rfl rfl rfl) (fun _ _ _ _ h => h)) (pa_cons (pv 0) pa_nil))
theorem heldClue (T : Tx K mg) : ∀ f F fr sp, RClue K T.C lamsT F fr sp → ∃ ps, LOk P w K mg base (L2.CX P w) 9 f F ps fr sp := by
  intro f F fr sp h
  rcases h with ⟨c, cl, rfl, rfl, rfl⟩
  · exact ⟨_, (llm_law10_0 T f c cl).mono (by decide)⟩
set_option maxHeartbeats 4000000 in
theorem ok_l_clues_right (T : Tx K mg) : FnL P w K mg base CX0 10 T.f_l_clues_right T.fd_l_clues_right ["_law_ask", "_law_one", "_law_other"] (sp_l_clues_right K T.C lamsT) := by
  refine Sd.Fun.okL T.F_l_clues_right sc_l_clues_right (fun c vs H Q E h => by obtain ⟨_, _, _, rfl, _⟩ := h; rfl) (fun cdv A outer s H vs c Q E hr CA h => ⟨t_l_clues_right K T.C lamsT c, ?_, pure_l_clues_right rfl rfl h⟩)
  exact (pss_cons (ps_set (i := 3) sc_l_clues_right.nd rfl (.inl rfl) (pe_call (ok_l_copied T) (hr.mono (by decide)) rfl T.g_l_copied T.F_l_copied.kp T.b_l_copied .nil pass0 (pa_cons (pv 1) pa_nil)))
      (pss_cons (ps_set (i := 4) sc_l_clues_right.nd rfl (.inl rfl) (pe_callLc (i := 0) (c := c) (heldClue T) (hr.mono (by decide)) CA rfl rfl (by first | exact Or.inl rfl | exact Or.inr (Or.inl rfl) | exact Or.inr (Or.inr rfl)) (fun σ => passLAt) (pa_cons (pv 3) pa_nil)))
      (pss_cons (ps_if (pt_cmpR (op_neD hr.units) (pv 3) (pv 1) (nomark _)) (pss_one (ps_ret pe_bl)) pss_nil)
      (pss_cons (ps_set (i := 5) sc_l_clues_right.nd rfl (.inl rfl) (pe_call (ok_l_copied T) (hr.mono (by decide)) rfl T.g_l_copied T.F_l_copied.kp T.b_l_copied .nil pass0 (pa_cons (pv 4) pa_nil)))
      (pss_cons (ps_for PassesOwn.never rfl (pi_list (pv 4)) (pg_name (i := 6) sc_l_clues_right.nd rfl (.inl rfl)) (pss_one (ps_expr (pe_bm PySem.F.plainAttrs_list PySem.F.slot_list_append PySem.F.type_list_append mt_append (pv 6) (pa_cons pe_int pa_nil)))))
      (pss_cons (ps_expr (pe_bm PySem.F.plainAttrs_list PySem.F.slot_list_append PySem.F.type_list_append mt_append (pv 4) (pa_cons (pe_lst pa_nil) pa_nil)))
      (pss_cons (ps_if (pt_cmpR (op_neD hr.units) (pe_callLc (i := 0) (c := c) (heldClue T) (hr.mono (by decide)) CA rfl rfl (by first | exact Or.inl rfl | exact Or.inr (Or.inl rfl) | exact Or.inr (Or.inr rfl)) (fun σ => passLAt) (pa_cons (pv 3) pa_nil)) (pv 5) (nomark _)) (pss_one (ps_ret pe_bl)) pss_nil)
      (pss_cons (ps_for PassesOwn.never rfl (pi_enum (by rfl) T.n_enumerate (pa_cons (pv 2) pa_nil)) (pg_tup rfl (pgs_cons (pg_name (i := 7) sc_l_clues_right.nd rfl (.inl rfl)) (pgs_cons (pg_name (i := 6) sc_l_clues_right.nd rfl (.inl rfl)) pgs_nil))) (pss_one (ps_for PassesOwn.never rfl (pi_enum (by rfl) T.n_enumerate (pa_cons (pv 6) pa_nil)) (pg_tup rfl (pgs_cons (pg_name (i := 8) sc_l_clues_right.nd rfl (.inl rfl)) (pgs_cons (pg_name (i := 9) sc_l_clues_right.nd rfl (.inl rfl)) pgs_nil))) (pss_one (ps_asg (pv 9) (pg_sub (pe_ix ix_list (pv 3) (pv 7) (fun _ _ => rfl)) (pv 8) set_list))))))
      (pss_cons (ps_if (PW.pt (pw_or (pt_cmpR (op_neD hr.units) (pe_callLc (i := 0) (c := c) (heldClue T) (hr.mono (by decide)) CA rfl rfl (by first | exact Or.inl rfl | exact Or.inr (Or.inl rfl) | exact Or.inr (Or.inr rfl)) (fun σ => passLAt) (pa_cons (pv 3) pa_nil)) (pe_callLc (i := 0) (c := c) (heldClue T) (hr.mono (by decide)) CA rfl rfl (by first | exact Or.inl rfl | exact Or.inr (Or.inl rfl) | exact Or.inr (Or.inr rfl)) (fun σ => passLAt) (pa_cons (pe_call (ok_l_copied T) (hr.mono (by decide)) rfl T.g_l_copied T.F_l_copied.kp T.b_l_copied .nil pass0 (pa_cons (pv 2) pa_nil)) pa_nil)) (nomark _)) (pw_or1 (pt_cmpR (op_neD hr.units) (pv 3) (pv 2) (nomark _))))) (pss_one (ps_ret pe_bl)) pss_nil)
      (pss_cons (ps_for PassesOwn.never rfl (pi_enum (by rfl) T.n_enumerate (pa_cons (pv 1) pa_nil)) (pg_tup rfl (pgs_cons (pg_name (i := 7) sc_l_clues_right.nd rfl (.inl rfl)) (pgs_cons (pg_name (i := 6) sc_l_clues_right.nd rfl (.inl rfl)) pgs_nil))) (pss_one (ps_for PassesOwn.never rfl (pi_enum (by rfl) T.n_enumerate (pa_cons (pv 6) pa_nil)) (pg_tup rfl (pgs_cons (pg_name (i := 8) sc_l_clues_right.nd rfl (.inl rfl)) (pgs_cons (pg_name (i := 9) sc_l_clues_right.nd rfl (.inl rfl)) pgs_nil))) (pss_one (ps_asg (pv 9) (pg_sub (pe_ix ix_list (pv 3) (pv 7) (fun _ _ => rfl)) (pv 8) set_list))))))
      (pss_one (ps_ret (pe_and (pe_cmpR (op_eqD hr.units) (pe_callLc (i := 0) (c := c) (heldClue T) (hr.mono (by decide)) CA rfl rfl (by first | exact Or.inl rfl | exact Or.inr (Or.inl rfl) | exact Or.inr (Or.inr rfl)) (fun σ => passLAt) (pa_cons (pv 3) pa_nil)) (pv 5) (nomark _)) (pe_one (pe_cmpR (op_eqD hr.units) (pv 3) (pv 1) (nomark _))))))))))))))))
set_option maxHeartbeats 4000000 in
theorem ok_One_init (T : Tx K mg) : FnOk P w K mg base CX0 1 T.f_One_init T.fd_One_init ["self", "cells"] (sp_One_init K T.C) := by
  refine T.F_One_init.ok sc_One_init (fun vs H Q E h => by obtain ⟨_, _, _, _, rfl, _⟩ := h; rfl) (fun cdv A outer s H vs Q E hr h => ⟨t_One_init K, ?_, pure_One_init rfl T.cf_One h⟩)
  exact (pss_one (ps_fld (pv 0) (pe_callTy call_list_of (by rfl) T.n_list (by decide +kernel) (pa_cons (pv 1) pa_nil)) rfl))
set_option maxHeartbeats 4000000 in
theorem ok_Two_init (T : Tx K mg) : FnOk P w K mg base CX0 1 T.f_Two_init T.fd_Two_init ["self", "one", "other"] (sp_Two_init K T.C) := by
  refine T.F_Two_init.ok sc_Two_init (fun vs H Q E h => by obtain ⟨_, _, _, _, _, _, rfl, _⟩ := h; rfl) (fun cdv A outer s H vs Q E hr h => ⟨t_Two_init K, ?_, pure_Two_init rfl T.cf_Two h⟩)
  exact (pss_cons (ps_fld (pv 0) (pe_callTy call_list_of (by rfl) T.n_list (by decide +kernel) (pa_cons (pv 1) pa_nil)) rfl)
      (pss_one (ps_fld (pv 0) (pe_callTy call_list_of (by rfl) T.n_list (by decide +kernel) (pa_cons (pv 2) pa_nil)) rfl)))
set_option maxHeartbeats 4000000 in
theorem ok_told (T : Tx K mg) : FnOk P w K mg base (L2.CX P w) 8 T.f_told T.fd_told ["clues"] (sp_told K T.C) := by
  refine T.F_told.okX sc_told (fun vs H Q E h => by obtain ⟨_, rfl, _⟩ := h; rfl) (fun cdv A outer s H vs Q E hr h => ⟨t_told K T.C E, ?_, pure_told rfl h⟩)
  exact (pss_cons (ps_expr (pe_call (ok_check_clues T) (hr.mono (by decide)) rfl T.g_check_clues T.F_check_clues.kp T.b_check_clues .nil (passes_call (takes_of rfl rfl rfl rfl) (fun _ _ _ _ h => h)) (pa_cons (pv 0) pa_nil)))
      (pss_cons (ps_set (i := 1) sc_told.nd rfl (.inl rfl) (pe_call (ok_fitting_of T) (hr.mono (by decide)) rfl T.g_fitting_of T.F_fitting_of.kp T.b_fitting_of .nil pass0 (pa_cons (pv 0) pa_nil)))
      (pss_cons (ps_if (pt_cmpR (op_eqD hr.units) (pv 1) (pe_lst pa_nil) (nomark _)) (pss_one (ps_ret (pe_bare T.m_Never (by rfl) T.g_Never))) pss_nil)
      (pss_one (ps_ret (pe_ifExp (pt_cmpR op_eq (pe_callB call_len_seq (by rfl) T.n_len (by decide +kernel) (pa_cons (pv 1) pa_nil)) pe_int (nomark _)) (pe_make T.m_One (ok_One_init T) (hr.mono (by decide)) (by rfl) T.g_One T.b_One_init .nil pass0 (pa_cons (pe_ix ix_list (pv 1) pe_int (fun _ _ => rfl)) pa_nil)) (pe_make T.m_Two (ok_Two_init T) (hr.mono (by decide)) (by rfl) T.g_Two T.b_Two_init .nil pass0 (pa_cons (pe_ix ix_list (pv 1) pe_int (fun _ _ => rfl)) (pa_cons (pe_ix ix_list (pv 1) pe_int (fun _ _ => rfl)) pa_nil)))))))))
set_option maxHeartbeats 4000000 in
theorem ok_l_fields (T : Tx K mg) : FnOk P w K mg base CX0 1 T.f_l_fields T.fd_l_fields ["_law_found"] (sp_l_fields K T.C) := by
  refine T.F_l_fields.ok sc_l_fields (fun vs H Q E h => by obtain ⟨_, _, rfl, _⟩ := h; rfl) (fun cdv A outer s H vs Q E hr h => ⟨t_l_fields K T.C, ?_, pure_l_fields rfl rfl T.cf_One T.cf_Two T.ci_One T.ci_Two T.ci_Never T.ki_One_One T.ki_Two_One T.ki_Never_One T.ki_One_Two T.ki_Two_Two T.ki_Never_Two h⟩)
  exact (pss_cons (ps_if (pt_val (pe_callB call_isi (by rfl) T.n_isinstance (by decide +kernel) (pa_cons (pv 0) (pa_cons (pe_glob rfl T.g_One rfl) pa_nil)))) (pss_one (ps_ret (pe_lst (pa_cons (pe_fld (pv 0) rfl) pa_nil)))) pss_nil)
      (pss_one (ps_ret (pe_ifExp (pt_val (pe_callB call_isi (by rfl) T.n_isinstance (by decide +kernel) (pa_cons (pv 0) (pa_cons (pe_glob rfl T.g_Two rfl) pa_nil)))) (pe_lst (pa_cons (pe_fld (pv 0) rfl) (pa_cons (pe_fld (pv 0) rfl) pa_nil))) (pe_lst pa_nil)))))
set_option maxHeartbeats 4000000 in
theorem ok_One_shows (T : Tx K mg) : FnOk P w K mg base CX0 8 T.f_One_shows T.fd_One_shows ["self", "clues"] (sp_One_shows K T.C) := by
  refine T.F_One_shows.ok sc_One_shows (fun vs H Q E h => by obtain ⟨_, _, _, _, _, _, rfl, _⟩ := h; rfl) (fun cdv A outer s H vs Q E hr h => ⟨t_One_shows K, ?_, pure_One_shows rfl T.cf_One h⟩)
  exact (pss_one (ps_ret (pe_cmpR (op_eqD hr.units) (pe_call (ok_fitting_of T) (hr.mono (by decide)) rfl T.g_fitting_of T.F_fitting_of.kp T.b_fitting_of .nil pass0 (pa_cons (pv 1) pa_nil)) (pe_lst (pa_cons (pe_fld (pv 0) rfl) pa_nil)) (nomark _))))
set_option maxHeartbeats 4000000 in
theorem ok_Two_shows (T : Tx K mg) : FnOk P w K mg base CX0 8 T.f_Two_shows T.fd_Two_shows ["self", "clues"] (sp_Two_shows K T.C) := by
  refine T.F_Two_shows.ok sc_Two_shows (fun vs H Q E h => by obtain ⟨_, _, _, _, _, _, _, _, rfl, _⟩ := h; rfl) (fun cdv A outer s H vs Q E hr h => ⟨t_Two_shows K, ?_, pure_Two_shows rfl T.cf_Two h⟩)
  exact (pss_cons (ps_set (i := 2) sc_Two_shows.nd rfl (.inl rfl) (pe_call (ok_fitting_of T) (hr.mono (by decide)) rfl T.g_fitting_of T.F_fitting_of.kp T.b_fitting_of .nil pass0 (pa_cons (pv 1) pa_nil)))
      (pss_one (ps_ret (pe_and (pe_cmpR (op_neD hr.units) (pe_fld (pv 0) rfl) (pe_fld (pv 0) rfl) (nomark _)) (pe_and (pe_cmpR (op_inD (hu65 hr)) (pe_fld (pv 0) rfl) (pv 2) (by rfl)) (pe_one (pe_cmpR (op_inD (hu65 hr)) (pe_fld (pv 0) rfl) (pv 2) (by rfl))))))))
set_option maxHeartbeats 4000000 in
theorem ok_Never_shows (T : Tx K mg) : FnOk P w K mg base CX0 8 T.f_Never_shows T.fd_Never_shows ["self", "clues"] (sp_Never_shows K) := by
  refine T.F_Never_shows.ok sc_Never_shows (fun vs H Q E h => by obtain ⟨_, _, _, rfl, _⟩ := h; rfl) (fun cdv A outer s H vs Q E hr h => ⟨t_Never_shows K, ?_, pure_Never_shows rfl h⟩)
  exact (pss_one (ps_ret (pe_cmpR (op_eqD hr.units) (pe_call (ok_fitting_of T) (hr.mono (by decide)) rfl T.g_fitting_of T.F_fitting_of.kp T.b_fitting_of .nil pass0 (pa_cons (pv 1) pa_nil)) (pe_lst pa_nil) (nomark _))))
set_option maxHeartbeats 4000000 in
theorem ok_l_tell_right (T : Tx K mg) : FnOk P w K mg base CX0 9 T.f_l_tell_right T.fd_l_tell_right ["_law_one", "_law_other"] (sp_l_tell_right K T.C) := by
  refine T.F_l_tell_right.ok sc_l_tell_right (fun vs H Q E h => by obtain ⟨_, _, _, _, rfl, _⟩ := h; rfl) (fun cdv A outer s H vs Q E hr h => ⟨t_l_tell_right K T.C, ?_, pure_l_tell_right rfl rfl h⟩)
  exact (pss_cons (ps_for PassesOwn.never rfl (pi_tup (pe_tup (pa_cons (pv 0) (pa_cons (pv 1) (pa_cons (pv 0) pa_nil))))) (pg_name (i := 2) sc_l_tell_right.nd rfl (.inl rfl)) (pss_cons (ps_set (i := 3) sc_l_tell_right.nd rfl (.inl rfl) (pe_call (ok_l_copied T) (hr.mono (by decide)) rfl T.g_l_copied T.F_l_copied.kp T.b_l_copied .nil pass0 (pa_cons (pv 2) pa_nil)))
      (pss_cons (ps_set (i := 4) sc_l_tell_right.nd rfl (.inl rfl) (pe_call (ok_told T) (hr.mono (by decide)) rfl T.g_told T.F_told.kp T.b_told .nil passL (pa_cons (pv 3) pa_nil)))
      (pss_cons (ps_if (PW.pt (pw_or (pt_cmpR (op_neD hr.units) (pv 3) (pv 2) (nomark _)) (pw_or1 (pt_cmpR op_notBl (pe_alt (pe_meth (pv 4) T.cl_One T.mt_One_shows (ok_One_shows T) (hr.mono (by decide)) T.b_One_shows .nil pass0 (pa_cons (pe_call (ok_l_copied T) (hr.mono (by decide)) rfl T.g_l_copied T.F_l_copied.kp T.b_l_copied .nil pass0 (pa_cons (pv 2) pa_nil)) pa_nil)) (pe_alt (pe_meth (pv 4) T.cl_Two T.mt_Two_shows (ok_Two_shows T) (hr.mono (by decide)) T.b_Two_shows .nil pass0 (pa_cons (pe_call (ok_l_copied T) (hr.mono (by decide)) rfl T.g_l_copied T.F_l_copied.kp T.b_l_copied .nil pass0 (pa_cons (pv 2) pa_nil)) pa_nil)) (pe_meth (pv 4) T.cl_Never T.mt_Never_shows (ok_Never_shows T) (hr.mono (by decide)) T.b_Never_shows .nil pass0 (pa_cons (pe_call (ok_l_copied T) (hr.mono (by decide)) rfl T.g_l_copied T.F_l_copied.kp T.b_l_copied .nil pass0 (pa_cons (pv 2) pa_nil)) pa_nil)))) pe_bl (nomark _))))) (pss_one (ps_ret pe_bl)) pss_nil)
      (pss_one (ps_for PassesOwn.never rfl (pi_list (pe_call (ok_l_fields T) (hr.mono (by decide)) rfl T.g_l_fields T.F_l_fields.kp T.b_l_fields .nil pass0 (pa_cons (pv 4) pa_nil))) (pg_name (i := 5) sc_l_tell_right.nd rfl (.inl rfl)) (pss_one (ps_expr (pe_bm PySem.F.plainAttrs_list PySem.F.slot_list_append PySem.F.type_list_append mt_append (pv 5) (pa_cons pe_int pa_nil))))))))))
      (pss_one (ps_ret pe_bl)))
set_option maxHeartbeats 4000000 in
theorem ok_check_few (T : Tx K mg) : FnOk P w K mg base (L2.CX P w) 3 T.f_check_few T.fd_check_few ["grid"] (sp_check_few K T.C) := by
  refine T.F_check_few.okX sc_check_few (fun vs H Q E h => by obtain ⟨_, rfl, _⟩ := h; rfl) (fun cdv A outer s H vs Q E hr h => ⟨t_check_few K T.C E, ?_, pure_check_few rfl h⟩)
  exact (pss_cons (ps_expr (pe_call (ok_check_grid T) (hr.mono (by decide)) rfl T.g_check_grid T.F_check_grid.kp T.b_check_grid .nil (passes_call (takes_of rfl rfl rfl rfl) (fun _ _ _ _ h => h)) (pa_cons (pv 0) pa_nil)))
      (pss_one (ps_if (pt_cmpR op_gt (pe_op op_mul (pe_ix ix_tup (pv 0) pe_int (fun _ _ => rfl)) (pe_ix ix_tup (pv 0) pe_int (fun _ _ => rfl))) (pe_glob rfl T.g_FEW ⟨_, rfl⟩) (nomark _)) (pss_one (ps_raise rfl (takes_of rfl rfl rfl rfl) (pmk_own PySem.F.excBase_ValueError T.x_BadGrid T.g_BadGrid T.k_BadGrid (raises_own T.e_BadGrid T.y_BadGrid) (by rfl)))) pss_nil)))
set_option maxHeartbeats 4000000 in
theorem ok_rings (T : Tx K mg) : FnOk P w K mg base (L2.CX P w) 7 T.f_rings T.fd_rings ["grid"] (sp_rings K T.C) := by
  refine T.F_rings.okX sc_rings (fun vs H Q E h => by obtain ⟨_, rfl, _⟩ := h; rfl) (fun cdv A outer s H vs Q E hr h => ⟨t_rings K T.C E, ?_, pure_rings rfl h⟩)
  exact (pss_cons (ps_expr (pe_call (ok_check_few T) (hr.mono (by decide)) rfl T.g_check_few T.F_check_few.kp T.b_check_few .nil (passes_call (takes_of rfl rfl rfl rfl) (fun _ _ _ _ h => h)) (pa_cons (pv 0) pa_nil)))
      (pss_one (ps_ret (pe_call (ok_all_rings T) (hr.mono (by decide)) rfl T.g_all_rings T.F_all_rings.kp T.b_all_rings .nil pass0 (pa_cons (pv 0) pa_nil)))))
set_option maxHeartbeats 4000000 in
theorem ok_law10 (T : Tx K mg) (tb : ∀ p ∈ csT T, LamX.TabB base mg p.1 p.2) : FnOk P w K mg base CX0 11 T.f_law10 T.fd_law10 ["_law_script"] (sp_law10 K (tabsT T)) := by
  refine Sd.Fun.okC T.F_law10 T.hcd_law10 sc_law10 (fun vs H Q E h => by obtain ⟨_, _, rfl, _⟩ := h; rfl) (fun A outer s H vs Q E hr h => ⟨t_law10 K T.C lamsT (tabsT T) (cloFrom (envOfC "law" (defScope s_law10) s.heap.objs.size T.f_law10 (.ref T.cc_law10)).cells lamsT.lm_law10_0.scope.names []), ?_, pure_law10 rfl rfl h⟩)
  exact (pss_cons (ps_set (i := 1) sc_law10.nd rfl (.inl rfl) (pe_callB call_abs (by rfl) T.n_abs (by decide +kernel) (pa_cons (pe_callB (cr_sum rfl) (by rfl) T.n_sum (by decide +kernel) (pa_cons (pe_slice sl_list (pv 0) po_none (po_some pe_int)) pa_nil)) pa_nil)))
      (pss_cons (ps_par (i := 2) (j := 3) (by rfl) sc_law10.nd rfl rfl (by decide) rfl rfl (pa_cons (pe_op op_add pe_int (pe_op op_mod (pv 1) pe_int)) (pa_cons (pe_op op_add pe_int (pe_op op_mod (pe_op op_fdiv (pv 1) pe_int) pe_int)) pa_nil)) (by rfl))
      (pss_cons (ps_if (PW.pt (pw_or (pt_not (pt_val (pe_call (ok_l_cells_right T tb) (hr.mono (by decide)) rfl T.g_l_cells_right T.F_l_cells_right.kp T.b_l_cells_right .nil pass0 (pa_cons (pv 2) (pa_cons (pv 3) (pa_cons (pe_op op_add pe_int (pe_op op_mod (pe_op op_fdiv (pv 1) pe_int) (pv 3))) (pa_cons pe_int pa_nil))))))) (pw_or1 (pt_not (pt_val (pe_call (ok_l_apart_right T) (hr.mono (by decide)) rfl T.g_l_apart_right T.F_l_apart_right.kp T.b_l_apart_right .nil pass0 (pa_cons (pv 2) (pa_cons (pv 3) pa_nil)))))))) (pss_one (ps_ret pe_bl)) pss_nil)
      (pss_cons (ps_set (i := 4) sc_law10.nd rfl (.inl rfl) (pe_lst (pa_cons (pe_lst (pa_cons (pe_lst (pa_cons (pe_un un_neg pe_int) (pa_cons (pe_un un_neg pe_int) pa_nil))) (pa_cons (pe_lst (pa_cons (pe_un un_neg pe_int) (pa_cons (pe_un un_neg pe_int) pa_nil))) pa_nil))) (pa_cons (pe_lst (pa_cons (pe_lst (pa_cons pe_int (pa_cons (pe_un un_neg pe_int) pa_nil))) (pa_cons (pe_lst (pa_cons (pe_un un_neg pe_int) (pa_cons pe_int pa_nil))) pa_nil))) (pa_cons (pe_lst (pa_cons (pe_lst (pa_cons pe_int (pa_cons (pe_un un_neg pe_int) pa_nil))) (pa_cons (pe_lst (pa_cons (pe_un un_neg pe_int) (pa_cons (pe_un un_neg pe_int) pa_nil))) pa_nil))) (pa_cons (pe_lst (pa_cons (pe_lst (pa_cons pe_int (pa_cons pe_int pa_nil))) (pa_cons (pe_lst (pa_cons pe_int (pa_cons pe_int pa_nil))) pa_nil))) pa_nil))))))
      (pss_cons (ps_set (i := 4) sc_law10.nd rfl (.inl rfl) (pe_op op_cat (pv 4) (pe_lst (pa_cons (pe_lst (pa_cons (pe_lst (pa_cons pe_int (pa_cons pe_int pa_nil))) (pa_cons (pe_lst (pa_cons pe_int (pa_cons pe_int pa_nil))) pa_nil))) pa_nil))))
      (pss_cons (ps_set (i := 4) sc_law10.nd rfl (.inl rfl) (pe_op op_cat (pv 4) (pe_lst (pa_cons (pe_lst (pa_cons (pe_lst (pa_cons (pe_un un_neg pe_int) (pa_cons pe_int pa_nil))) (pa_cons (pe_lst (pa_cons pe_int (pa_cons (pe_un un_neg pe_int) pa_nil))) pa_nil))) (pa_cons (pe_lst (pa_cons (pe_lst (pa_cons pe_int (pa_cons pe_int pa_nil))) (pa_cons (pe_lst (pa_cons pe_int (pa_cons pe_int pa_nil))) pa_nil))) pa_nil)))))
      (pss_cons (ps_par (i := 5) (j := 6) (by rfl) sc_law10.nd rfl rfl (by decide) rfl rfl (pa_cons (pe_ix ix_list (pv 4) (pe_op op_mod (pv 1) pe_int) (fun _ _ => rfl)) (pa_cons (pe_ix ix_list (pv 4) (pe_op op_mod (pe_op op_fdiv (pv 1) pe_int) pe_int) (fun _ _ => rfl)) pa_nil)) (by rfl))
      (pss_cons (ps_if (PW.pt (pw_or (pt_not (pt_val (pe_callL (js := []) (fr := []) (cl := (cloFrom (envOfC "law" (defScope s_law10) s.heap.objs.size T.f_law10 (.ref T.cc_law10)).cells lamsT.lm_law10_0.scope.names [])) (ok_l_clues_right T) (hr.mono (by decide)) rfl T.g_l_clues_right T.F_l_clues_right.kp T.b_l_clues_right (caps_of (sc := defScope s_law10) (scope := lamsT.lm_law10_0.scope) (by decide +kernel) rfl rfl rfl) pass0 (pa_cons (pe_lambC (L := lamsT.lm_law10_0) (cl := (cloFrom (envOfC "law" (defScope s_law10) s.heap.objs.size T.f_law10 (.ref T.cc_law10)).cells lamsT.lm_law10_0.scope.names [])) (tb _ (tc_law10 T)) rfl (tm_law10 T) (tu_law10 T) (by rfl) rfl (NdefX.ndef_free (sc := defScope s_law10) (nsc := lamsT.lm_law10_0.scope) (fr := []) (by decide +kernel)) (by rfl) rfl) (pa_cons (pv 5) (pa_cons (pv 6) pa_nil)))))) (pw_or1 (pt_not (pt_val (pe_call (ok_l_tell_right T) (hr.mono (by decide)) rfl T.g_l_tell_right T.F_l_tell_right.kp T.b_l_tell_right .nil pass0 (pa_cons (pv 5) (pa_cons (pv 6) pa_nil)))))))) (pss_one (ps_ret pe_bl)) pss_nil)
      (pss_cons (ps_set (i := 7) sc_law10.nd rfl (.inl rfl) (pe_call (ok_rings T) (hr.mono (by decide)) rfl T.g_rings T.F_rings.kp T.b_rings .nil passL (pa_cons (pe_tup (pa_cons pe_int (pa_cons pe_int pa_nil))) pa_nil)))
      (pss_cons (ps_expr (pe_bm PySem.F.plainAttrs_list PySem.F.slot_list_append PySem.F.type_list_append mt_append (pe_ix ix_list (pv 7) pe_int (fun _ _ => rfl)) (pa_cons pe_int pa_nil)))
      (pss_cons (ps_expr (pe_bm0 PySem.F.plainAttrs_list PySem.F.slot_list_pop PySem.F.type_list_pop mt_pop (pv 7)))
      (pss_cons (ps_if (pt_cmpR op_ne (pe_callB call_len_seq (by rfl) T.n_len (by decide +kernel) (pa_cons (pe_call (ok_rings T) (hr.mono (by decide)) rfl T.g_rings T.F_rings.kp T.b_rings .nil passL (pa_cons (pe_tup (pa_cons pe_int (pa_cons pe_int pa_nil))) pa_nil)) pa_nil)) (pe_op op_add (pe_callB call_len_seq (by rfl) T.n_len (by decide +kernel) (pa_cons (pv 7) pa_nil)) pe_int) (nomark _)) (pss_one (ps_ret pe_bl)) pss_nil)
      (pss_cons (ps_if (pt_cmpR op_in_seq pe_int (pe_ix ix_list (pe_call (ok_rings T) (hr.mono (by decide)) rfl T.g_rings T.F_rings.kp T.b_rings .nil passL (pa_cons (pe_tup (pa_cons pe_int (pa_cons pe_int pa_nil))) pa_nil)) pe_int (fun _ _ => rfl)) (by rfl)) (pss_one (ps_ret pe_bl)) pss_nil)
      (pss_one (ps_ret (pe_cmpR (op_eqD hr.units) (pe_call (ok_rings T) (hr.mono (by decide)) rfl T.g_rings T.F_rings.kp T.b_rings .nil passL (pa_cons (pe_tup (pa_cons pe_int (pa_cons pe_int pa_nil))) pa_nil)) (pe_call (ok_fitting T) (hr.mono (by decide)) rfl T.g_fitting T.F_fitting.kp T.b_fitting .nil passL (pa_cons (pe_lst (pa_cons (pe_lst (pa_cons (pe_un un_neg pe_int) (pa_cons (pe_un un_neg pe_int) pa_nil))) (pa_cons (pe_lst (pa_cons (pe_un un_neg pe_int) (pa_cons (pe_un un_neg pe_int) pa_nil))) pa_nil))) pa_nil)) (nomark _)))))))))))))))))
end
theorem all_mk {l : PySem.W.OpenLaw} {w : World} {K : PySem.W.Frag} {h : Heap} {mg : Str → Option Value} {fa : Addr} {a_cSplit a_cHole a_cRing a_cOne a_cTwo a_cNever a_cBadGrid a_cBadCells a_cNoRing a_cBadClues : Addr} (X : K.In h) (G : h.Ns mainGlobals mg) (hfa : mg "law" = some (.ref fa))
    (TB : ∀ y ∈ (["_law_cells_right", "law"] : List Str), ∀ c P, PySem.W.tabIn K y = some (c, P) → PySem.W.CodeHd h c P ∧ h.get? P = some { cls := .none, data := .fields #[] })
    {oc_is_whole kV_is_whole dc_is_whole pm_is_whole cd_is_whole ct_is_whole : Value} {od_is_whole an_is_whole : Option Addr} {sl_is_whole : Array (Option Value)} {f_is_whole : Addr}
    {oc_check_grid kV_check_grid dc_check_grid pm_check_grid cd_check_grid ct_check_grid : Value} {od_check_grid an_check_grid : Option Addr} {sl_check_grid : Array (Option Value)} {f_check_grid : Addr}
    {oc_check_cells kV_check_cells dc_check_cells pm_check_cells cd_check_cells ct_check_cells : Value} {od_check_cells an_check_cells : Option Addr} {sl_check_cells : Array (Option Value)} {f_check_cells : Addr}
    {oc_beside kV_beside dc_beside pm_beside cd_beside ct_beside : Value} {od_beside an_beside : Option Addr} {sl_beside : Array (Option Value)} {f_beside : Addr}
    {oc_sides_of kV_sides_of dc_sides_of pm_sides_of cd_sides_of ct_sides_of : Value} {od_sides_of an_sides_of : Option Addr} {sl_sides_of : Array (Option Value)} {f_sides_of : Addr}
    {oc_numbers_of kV_numbers_of dc_numbers_of pm_numbers_of cd_numbers_of ct_numbers_of : Value} {od_numbers_of an_numbers_of : Option Addr} {sl_numbers_of : Array (Option Value)} {f_numbers_of : Addr}
    {oc_numbers kV_numbers dc_numbers pm_numbers cd_numbers ct_numbers : Value} {od_numbers an_numbers : Option Addr} {sl_numbers : Array (Option Value)} {f_numbers : Addr}
    {oc_spread kV_spread dc_spread pm_spread cd_spread ct_spread : Value} {od_spread an_spread : Option Addr} {sl_spread : Array (Option Value)} {f_spread : Addr}
    {oc_is_inner kV_is_inner dc_is_inner pm_is_inner cd_is_inner ct_is_inner : Value} {od_is_inner an_is_inner : Option Addr} {sl_is_inner : Array (Option Value)} {f_is_inner : Addr}
    {oc_first_inner kV_first_inner dc_first_inner pm_first_inner cd_first_inner ct_first_inner : Value} {od_first_inner an_first_inner : Option Addr} {sl_first_inner : Array (Option Value)} {f_first_inner : Addr}
    {oc_is_ring kV_is_ring dc_is_ring pm_is_ring cd_is_ring ct_is_ring : Value} {od_is_ring an_is_ring : Option Addr} {sl_is_ring : Array (Option Value)} {f_is_ring : Addr}
    {oc_side_ahead kV_side_ahead dc_side_ahead pm_side_ahead cd_side_ahead ct_side_ahead : Value} {od_side_ahead an_side_ahead : Option Addr} {sl_side_ahead : Array (Option Value)} {f_side_ahead : Addr}
    {oc_walk kV_walk dc_walk pm_walk cd_walk ct_walk : Value} {od_walk an_walk : Option Addr} {sl_walk : Array (Option Value)} {f_walk : Addr}
    {oc_Split_init kV_Split_init dc_Split_init pm_Split_init cd_Split_init ct_Split_init : Value} {od_Split_init an_Split_init : Option Addr} {sl_Split_init : Array (Option Value)} {f_Split_init : Addr}
    {oc_Hole_init kV_Hole_init dc_Hole_init pm_Hole_init cd_Hole_init ct_Hole_init : Value} {od_Hole_init an_Hole_init : Option Addr} {sl_Hole_init : Array (Option Value)} {f_Hole_init : Addr}
    {oc_judged kV_judged dc_judged pm_judged cd_judged ct_judged : Value} {od_judged an_judged : Option Addr} {sl_judged : Array (Option Value)} {f_judged : Addr}
    {oc_Ring_shows kV_Ring_shows dc_Ring_shows pm_Ring_shows cd_Ring_shows ct_Ring_shows : Value} {od_Ring_shows an_Ring_shows : Option Addr} {sl_Ring_shows : Array (Option Value)} {f_Ring_shows : Addr}
    {oc_Split_shows kV_Split_shows dc_Split_shows pm_Split_shows cd_Split_shows ct_Split_shows : Value} {od_Split_shows an_Split_shows : Option Addr} {sl_Split_shows : Array (Option Value)} {f_Split_shows : Addr}
    {oc_Hole_shows kV_Hole_shows dc_Hole_shows pm_Hole_shows cd_Hole_shows ct_Hole_shows : Value} {od_Hole_shows an_Hole_shows : Option Addr} {sl_Hole_shows : Array (Option Value)} {f_Hole_shows : Addr}
    {oc_l_door_right kV_l_door_right dc_l_door_right pm_l_door_right cd_l_door_right ct_l_door_right : Value} {od_l_door_right an_l_door_right : Option Addr} {sl_l_door_right : Array (Option Value)} {f_l_door_right : Addr}
    {oc_l_cells_right kV_l_cells_right dc_l_cells_right pm_l_cells_right cd_l_cells_right ct_l_cells_right : Value} {od_l_cells_right an_l_cells_right : Option Addr} {sl_l_cells_right : Array (Option Value)} {f_l_cells_right : Addr}
    {cc_l_cells_right pp_l_cells_right : Addr} {ev_l_cells_right : Value} {dv_l_cells_right : Option Addr} {vv_l_cells_right : Array Value} {sv_l_cells_right : Array (Option Value)}
    {oc_l_apart_right kV_l_apart_right dc_l_apart_right pm_l_apart_right cd_l_apart_right ct_l_apart_right : Value} {od_l_apart_right an_l_apart_right : Option Addr} {sl_l_apart_right : Array (Option Value)} {f_l_apart_right : Addr}
    {oc_l_copied kV_l_copied dc_l_copied pm_l_copied cd_l_copied ct_l_copied : Value} {od_l_copied an_l_copied : Option Addr} {sl_l_copied : Array (Option Value)} {f_l_copied : Addr}
    {oc_check_clues kV_check_clues dc_check_clues pm_check_clues cd_check_clues ct_check_clues : Value} {od_check_clues an_check_clues : Option Addr} {sl_check_clues : Array (Option Value)} {f_check_clues : Addr}
    {oc_all_rings kV_all_rings dc_all_rings pm_all_rings cd_all_rings ct_all_rings : Value} {od_all_rings an_all_rings : Option Addr} {sl_all_rings : Array (Option Value)} {f_all_rings : Addr}
    {oc_fits kV_fits dc_fits pm_fits cd_fits ct_fits : Value} {od_fits an_fits : Option Addr} {sl_fits : Array (Option Value)} {f_fits : Addr}
    {oc_fitting_of kV_fitting_of dc_fitting_of pm_fitting_of cd_fitting_of ct_fitting_of : Value} {od_fitting_of an_fitting_of : Option Addr} {sl_fitting_of : Array (Option Value)} {f_fitting_of : Addr}
    {oc_fitting kV_fitting dc_fitting pm_fitting cd_fitting ct_fitting : Value} {od_fitting an_fitting : Option Addr} {sl_fitting : Array (Option Value)} {f_fitting : Addr}
    {oc_l_clues_right kV_l_clues_right dc_l_clues_right pm_l_clues_right cd_l_clues_right ct_l_clues_right : Value} {od_l_clues_right an_l_clues_right : Option Addr} {sl_l_clues_right : Array (Option Value)} {f_l_clues_right : Addr}
    {oc_One_init kV_One_init dc_One_init pm_One_init cd_One_init ct_One_init : Value} {od_One_init an_One_init : Option Addr} {sl_One_init : Array (Option Value)} {f_One_init : Addr}
    {oc_Two_init kV_Two_init dc_Two_init pm_Two_init cd_Two_init ct_Two_init : Value} {od_Two_init an_Two_init : Option Addr} {sl_Two_init : Array (Option Value)} {f_Two_init : Addr}
    {oc_told kV_told dc_told pm_told cd_told ct_told : Value} {od_told an_told : Option Addr} {sl_told : Array (Option Value)} {f_told : Addr}
    {oc_l_fields kV_l_fields dc_l_fields pm_l_fields cd_l_fields ct_l_fields : Value} {od_l_fields an_l_fields : Option Addr} {sl_l_fields : Array (Option Value)} {f_l_fields : Addr}
    {oc_One_shows kV_One_shows dc_One_shows pm_One_shows cd_One_shows ct_One_shows : Value} {od_One_shows an_One_shows : Option Addr} {sl_One_shows : Array (Option Value)} {f_One_shows : Addr}
    {oc_Two_shows kV_Two_shows dc_Two_shows pm_Two_shows cd_Two_shows ct_Two_shows : Value} {od_Two_shows an_Two_shows : Option Addr} {sl_Two_shows : Array (Option Value)} {f_Two_shows : Addr}
    {oc_Never_shows kV_Never_shows dc_Never_shows pm_Never_shows cd_Never_shows ct_Never_shows : Value} {od_Never_shows an_Never_shows : Option Addr} {sl_Never_shows : Array (Option Value)} {f_Never_shows : Addr}
    {oc_l_tell_right kV_l_tell_right dc_l_tell_right pm_l_tell_right cd_l_tell_right ct_l_tell_right : Value} {od_l_tell_right an_l_tell_right : Option Addr} {sl_l_tell_right : Array (Option Value)} {f_l_tell_right : Addr}
    {oc_check_few kV_check_few dc_check_few pm_check_few cd_check_few ct_check_few : Value} {od_check_few an_check_few : Option Addr} {sl_check_few : Array (Option Value)} {f_check_few : Addr}
    {oc_rings kV_rings dc_rings pm_rings cd_rings ct_rings : Value} {od_rings an_rings : Option Addr} {sl_rings : Array (Option Value)} {f_rings : Addr}
    {oc_law10 kV_law10 dc_law10 pm_law10 cd_law10 ct_law10 : Value} {od_law10 an_law10 : Option Addr} {sl_law10 : Array (Option Value)} {f_law10 : Addr}
    {cc_law10 pp_law10 : Addr} {ev_law10 : Value} {dv_law10 : Option Addr} {vv_law10 : Array Value} {sv_law10 : Array (Option Value)}
    {k_MOST : Tok}
    {k_FEW : Tok}
    (ha_is_whole : PySem.W.nsIn K mainGlobals "is_whole" = some (some (.ref f_is_whole)))
    (hl_is_whole : K.lookup f_is_whole = some ⟨oc_is_whole, od_is_whole, .func (PySem.W.fnOf "is_whole" "is_whole" (defArgs s_is_whole) (defBody s_is_whole) (defScope s_is_whole) .none kV_is_whole dc_is_whole pm_is_whole an_is_whole cd_is_whole ct_is_whole), sl_is_whole⟩)
    (hc_is_whole : PySem.W.codeIn K cd_is_whole "is_whole" = true)
    (hk_is_whole : PySem.W.keepIn K (.ref f_is_whole) = true)
    (ha_check_grid : PySem.W.nsIn K mainGlobals "check_grid" = some (some (.ref f_check_grid)))
    (hl_check_grid : K.lookup f_check_grid = some ⟨oc_check_grid, od_check_grid, .func (PySem.W.fnOf "check_grid" "check_grid" (defArgs s_check_grid) (defBody s_check_grid) (defScope s_check_grid) .none kV_check_grid dc_check_grid pm_check_grid an_check_grid cd_check_grid ct_check_grid), sl_check_grid⟩)
    (hc_check_grid : PySem.W.codeIn K cd_check_grid "check_grid" = true)
    (hk_check_grid : PySem.W.keepIn K (.ref f_check_grid) = true)
    (ha_check_cells : PySem.W.nsIn K mainGlobals "check_cells" = some (some (.ref f_check_cells)))
    (hl_check_cells : K.lookup f_check_cells = some ⟨oc_check_cells, od_check_cells, .func (PySem.W.fnOf "check_cells" "check_cells" (defArgs s_check_cells) (defBody s_check_cells) (defScope s_check_cells) .none kV_check_cells dc_check_cells pm_check_cells an_check_cells cd_check_cells ct_check_cells), sl_check_cells⟩)
    (hc_check_cells : PySem.W.codeIn K cd_check_cells "check_cells" = true)
    (hk_check_cells : PySem.W.keepIn K (.ref f_check_cells) = true)
    (ha_beside : PySem.W.nsIn K mainGlobals "beside" = some (some (.ref f_beside)))
    (hl_beside : K.lookup f_beside = some ⟨oc_beside, od_beside, .func (PySem.W.fnOf "beside" "beside" (defArgs s_beside) (defBody s_beside) (defScope s_beside) .none kV_beside dc_beside pm_beside an_beside cd_beside ct_beside), sl_beside⟩)
    (hc_beside : PySem.W.codeIn K cd_beside "beside" = true)
    (hk_beside : PySem.W.keepIn K (.ref f_beside) = true)
    (ha_sides_of : PySem.W.nsIn K mainGlobals "sides_of" = some (some (.ref f_sides_of)))
    (hl_sides_of : K.lookup f_sides_of = some ⟨oc_sides_of, od_sides_of, .func (PySem.W.fnOf "sides_of" "sides_of" (defArgs s_sides_of) (defBody s_sides_of) (defScope s_sides_of) .none kV_sides_of dc_sides_of pm_sides_of an_sides_of cd_sides_of ct_sides_of), sl_sides_of⟩)
    (hc_sides_of : PySem.W.codeIn K cd_sides_of "sides_of" = true)
    (hk_sides_of : PySem.W.keepIn K (.ref f_sides_of) = true)
    (ha_numbers_of : PySem.W.nsIn K mainGlobals "numbers_of" = some (some (.ref f_numbers_of)))
    (hl_numbers_of : K.lookup f_numbers_of = some ⟨oc_numbers_of, od_numbers_of, .func (PySem.W.fnOf "numbers_of" "numbers_of" (defArgs s_numbers_of) (defBody s_numbers_of) (defScope s_numbers_of) .none kV_numbers_of dc_numbers_of pm_numbers_of an_numbers_of cd_numbers_of ct_numbers_of), sl_numbers_of⟩)
    (hc_numbers_of : PySem.W.codeIn K cd_numbers_of "numbers_of" = true)
    (hk_numbers_of : PySem.W.keepIn K (.ref f_numbers_of) = true)
    (ha_numbers : PySem.W.nsIn K mainGlobals "numbers" = some (some (.ref f_numbers)))
    (hl_numbers : K.lookup f_numbers = some ⟨oc_numbers, od_numbers, .func (PySem.W.fnOf "numbers" "numbers" (defArgs s_numbers) (defBody s_numbers) (defScope s_numbers) .none kV_numbers dc_numbers pm_numbers an_numbers cd_numbers ct_numbers), sl_numbers⟩)
    (hc_numbers : PySem.W.codeIn K cd_numbers "numbers" = true)
    (hk_numbers : PySem.W.keepIn K (.ref f_numbers) = true)
    (ha_spread : PySem.W.nsIn K mainGlobals "spread" = some (some (.ref f_spread)))
    (hl_spread : K.lookup f_spread = some ⟨oc_spread, od_spread, .func (PySem.W.fnOf "spread" "spread" (defArgs s_spread) (defBody s_spread) (defScope s_spread) .none kV_spread dc_spread pm_spread an_spread cd_spread ct_spread), sl_spread⟩)
    (hc_spread : PySem.W.codeIn K cd_spread "spread" = true)
    (hk_spread : PySem.W.keepIn K (.ref f_spread) = true)
    (ha_is_inner : PySem.W.nsIn K mainGlobals "is_inner" = some (some (.ref f_is_inner)))
    (hl_is_inner : K.lookup f_is_inner = some ⟨oc_is_inner, od_is_inner, .func (PySem.W.fnOf "is_inner" "is_inner" (defArgs s_is_inner) (defBody s_is_inner) (defScope s_is_inner) .none kV_is_inner dc_is_inner pm_is_inner an_is_inner cd_is_inner ct_is_inner), sl_is_inner⟩)
    (hc_is_inner : PySem.W.codeIn K cd_is_inner "is_inner" = true)
    (hk_is_inner : PySem.W.keepIn K (.ref f_is_inner) = true)
    (ha_first_inner : PySem.W.nsIn K mainGlobals "first_inner" = some (some (.ref f_first_inner)))
    (hl_first_inner : K.lookup f_first_inner = some ⟨oc_first_inner, od_first_inner, .func (PySem.W.fnOf "first_inner" "first_inner" (defArgs s_first_inner) (defBody s_first_inner) (defScope s_first_inner) .none kV_first_inner dc_first_inner pm_first_inner an_first_inner cd_first_inner ct_first_inner), sl_first_inner⟩)
    (hc_first_inner : PySem.W.codeIn K cd_first_inner "first_inner" = true)
    (hk_first_inner : PySem.W.keepIn K (.ref f_first_inner) = true)
    (ha_is_ring : PySem.W.nsIn K mainGlobals "is_ring" = some (some (.ref f_is_ring)))
    (hl_is_ring : K.lookup f_is_ring = some ⟨oc_is_ring, od_is_ring, .func (PySem.W.fnOf "is_ring" "is_ring" (defArgs s_is_ring) (defBody s_is_ring) (defScope s_is_ring) .none kV_is_ring dc_is_ring pm_is_ring an_is_ring cd_is_ring ct_is_ring), sl_is_ring⟩)
    (hc_is_ring : PySem.W.codeIn K cd_is_ring "is_ring" = true)
    (hk_is_ring : PySem.W.keepIn K (.ref f_is_ring) = true)
    (ha_side_ahead : PySem.W.nsIn K mainGlobals "side_ahead" = some (some (.ref f_side_ahead)))
    (hl_side_ahead : K.lookup f_side_ahead = some ⟨oc_side_ahead, od_side_ahead, .func (PySem.W.fnOf "side_ahead" "side_ahead" (defArgs s_side_ahead) (defBody s_side_ahead) (defScope s_side_ahead) .none kV_side_ahead dc_side_ahead pm_side_ahead an_side_ahead cd_side_ahead ct_side_ahead), sl_side_ahead⟩)
    (hc_side_ahead : PySem.W.codeIn K cd_side_ahead "side_ahead" = true)
    (hk_side_ahead : PySem.W.keepIn K (.ref f_side_ahead) = true)
    (ha_walk : PySem.W.nsIn K mainGlobals "walk" = some (some (.ref f_walk)))
    (hl_walk : K.lookup f_walk = some ⟨oc_walk, od_walk, .func (PySem.W.fnOf "walk" "walk" (defArgs s_walk) (defBody s_walk) (defScope s_walk) .none kV_walk dc_walk pm_walk an_walk cd_walk ct_walk), sl_walk⟩)
    (hc_walk : PySem.W.codeIn K cd_walk "walk" = true)
    (hk_walk : PySem.W.keepIn K (.ref f_walk) = true)
    (h_n_Split : PySem.W.nsIn K mainGlobals "Split" = some (some (.ref a_cSplit)))
    (ha_Split_init : PySem.W.findIn K (.ref a_cSplit) "__init__" = some (some (.ref f_Split_init)))
    (hl_Split_init : K.lookup f_Split_init = some ⟨oc_Split_init, od_Split_init, .func (PySem.W.fnOf "__init__" "Split.__init__" (defArgs s_Split_init) (defBody s_Split_init) (defScope s_Split_init) .none kV_Split_init dc_Split_init pm_Split_init an_Split_init cd_Split_init ct_Split_init), sl_Split_init⟩)
    (hc_Split_init : PySem.W.codeIn K cd_Split_init "Split.__init__" = true)
    (hk_Split_init : PySem.W.keepIn K (.ref f_Split_init) = true)
    (h_n_Hole : PySem.W.nsIn K mainGlobals "Hole" = some (some (.ref a_cHole)))
    (ha_Hole_init : PySem.W.findIn K (.ref a_cHole) "__init__" = some (some (.ref f_Hole_init)))
    (hl_Hole_init : K.lookup f_Hole_init = some ⟨oc_Hole_init, od_Hole_init, .func (PySem.W.fnOf "__init__" "Hole.__init__" (defArgs s_Hole_init) (defBody s_Hole_init) (defScope s_Hole_init) .none kV_Hole_init dc_Hole_init pm_Hole_init an_Hole_init cd_Hole_init ct_Hole_init), sl_Hole_init⟩)
    (hc_Hole_init : PySem.W.codeIn K cd_Hole_init "Hole.__init__" = true)
    (hk_Hole_init : PySem.W.keepIn K (.ref f_Hole_init) = true)
    (ha_judged : PySem.W.nsIn K mainGlobals "judged" = some (some (.ref f_judged)))
    (hl_judged : K.lookup f_judged = some ⟨oc_judged, od_judged, .func (PySem.W.fnOf "judged" "judged" (defArgs s_judged) (defBody s_judged) (defScope s_judged) .none kV_judged dc_judged pm_judged an_judged cd_judged ct_judged), sl_judged⟩)
    (hc_judged : PySem.W.codeIn K cd_judged "judged" = true)
    (hk_judged : PySem.W.keepIn K (.ref f_judged) = true)
    (h_n_Ring : PySem.W.nsIn K mainGlobals "Ring" = some (some (.ref a_cRing)))
    (ha_Ring_shows : PySem.W.findIn K (.ref a_cRing) "shows" = some (some (.ref f_Ring_shows)))
    (hl_Ring_shows : K.lookup f_Ring_shows = some ⟨oc_Ring_shows, od_Ring_shows, .func (PySem.W.fnOf "shows" "Ring.shows" (defArgs s_Ring_shows) (defBody s_Ring_shows) (defScope s_Ring_shows) .none kV_Ring_shows dc_Ring_shows pm_Ring_shows an_Ring_shows cd_Ring_shows ct_Ring_shows), sl_Ring_shows⟩)
    (hc_Ring_shows : PySem.W.codeIn K cd_Ring_shows "Ring.shows" = true)
    (hk_Ring_shows : PySem.W.keepIn K (.ref f_Ring_shows) = true)
    (ha_Split_shows : PySem.W.findIn K (.ref a_cSplit) "shows" = some (some (.ref f_Split_shows)))
    (hl_Split_shows : K.lookup f_Split_shows = some ⟨oc_Split_shows, od_Split_shows, .func (PySem.W.fnOf "shows" "Split.shows" (defArgs s_Split_shows) (defBody s_Split_shows) (defScope s_Split_shows) .none kV_Split_shows dc_Split_shows pm_Split_shows an_Split_shows cd_Split_shows ct_Split_shows), sl_Split_shows⟩)
    (hc_Split_shows : PySem.W.codeIn K cd_Split_shows "Split.shows" = true)
    (hk_Split_shows : PySem.W.keepIn K (.ref f_Split_shows) = true)
    (ha_Hole_shows : PySem.W.findIn K (.ref a_cHole) "shows" = some (some (.ref f_Hole_shows)))
    (hl_Hole_shows : K.lookup f_Hole_shows = some ⟨oc_Hole_shows, od_Hole_shows, .func (PySem.W.fnOf "shows" "Hole.shows" (defArgs s_Hole_shows) (defBody s_Hole_shows) (defScope s_Hole_shows) .none kV_Hole_shows dc_Hole_shows pm_Hole_shows an_Hole_shows cd_Hole_shows ct_Hole_shows), sl_Hole_shows⟩)
    (hc_Hole_shows : PySem.W.codeIn K cd_Hole_shows "Hole.shows" = true)
    (hk_Hole_shows : PySem.W.keepIn K (.ref f_Hole_shows) = true)
    (ha_l_door_right : PySem.W.nsIn K mainGlobals "_law_door_right" = some (some (.ref f_l_door_right)))
    (hl_l_door_right : K.lookup f_l_door_right = some ⟨oc_l_door_right, od_l_door_right, .func (PySem.W.fnOf "_law_door_right" "_law_door_right" (defArgs s_l_door_right) (defBody s_l_door_right) (defScope s_l_door_right) .none kV_l_door_right dc_l_door_right pm_l_door_right an_l_door_right cd_l_door_right ct_l_door_right), sl_l_door_right⟩)
    (hc_l_door_right : PySem.W.codeIn K cd_l_door_right "_law_door_right" = true)
    (hk_l_door_right : PySem.W.keepIn K (.ref f_l_door_right) = true)
    (ha_l_cells_right : PySem.W.nsIn K mainGlobals "_law_cells_right" = some (some (.ref f_l_cells_right)))
    (hl_l_cells_right : K.lookup f_l_cells_right = some ⟨oc_l_cells_right, od_l_cells_right, .func (PySem.W.fnOf "_law_cells_right" "_law_cells_right" (defArgs s_l_cells_right) (defBody s_l_cells_right) (defScope s_l_cells_right) .none kV_l_cells_right dc_l_cells_right pm_l_cells_right an_l_cells_right cd_l_cells_right ct_l_cells_right), sl_l_cells_right⟩)
    (hc_l_cells_right : PySem.W.codeIn K cd_l_cells_right "_law_cells_right" = true)
    (hk_l_cells_right : PySem.W.keepIn K (.ref f_l_cells_right) = true)
    (hcd_l_cells_right : cd_l_cells_right = .ref cc_l_cells_right)
    (hlc_l_cells_right : K.lookup cc_l_cells_right = some ⟨ev_l_cells_right, dv_l_cells_right, .fields vv_l_cells_right, sv_l_cells_right⟩)
    (h11_l_cells_right : vv_l_cells_right[11]? = some (.ref pp_l_cells_right))
    (hnl_l_cells_right : K.lookup pp_l_cells_right = none)
    (ha_l_apart_right : PySem.W.nsIn K mainGlobals "_law_apart_right" = some (some (.ref f_l_apart_right)))
    (hl_l_apart_right : K.lookup f_l_apart_right = some ⟨oc_l_apart_right, od_l_apart_right, .func (PySem.W.fnOf "_law_apart_right" "_law_apart_right" (defArgs s_l_apart_right) (defBody s_l_apart_right) (defScope s_l_apart_right) .none kV_l_apart_right dc_l_apart_right pm_l_apart_right an_l_apart_right cd_l_apart_right ct_l_apart_right), sl_l_apart_right⟩)
    (hc_l_apart_right : PySem.W.codeIn K cd_l_apart_right "_law_apart_right" = true)
    (hk_l_apart_right : PySem.W.keepIn K (.ref f_l_apart_right) = true)
    (ha_l_copied : PySem.W.nsIn K mainGlobals "_law_copied" = some (some (.ref f_l_copied)))
    (hl_l_copied : K.lookup f_l_copied = some ⟨oc_l_copied, od_l_copied, .func (PySem.W.fnOf "_law_copied" "_law_copied" (defArgs s_l_copied) (defBody s_l_copied) (defScope s_l_copied) .none kV_l_copied dc_l_copied pm_l_copied an_l_copied cd_l_copied ct_l_copied), sl_l_copied⟩)
    (hc_l_copied : PySem.W.codeIn K cd_l_copied "_law_copied" = true)
    (hk_l_copied : PySem.W.keepIn K (.ref f_l_copied) = true)
    (ha_check_clues : PySem.W.nsIn K mainGlobals "check_clues" = some (some (.ref f_check_clues)))
    (hl_check_clues : K.lookup f_check_clues = some ⟨oc_check_clues, od_check_clues, .func (PySem.W.fnOf "check_clues" "check_clues" (defArgs s_check_clues) (defBody s_check_clues) (defScope s_check_clues) .none kV_check_clues dc_check_clues pm_check_clues an_check_clues cd_check_clues ct_check_clues), sl_check_clues⟩)
    (hc_check_clues : PySem.W.codeIn K cd_check_clues "check_clues" = true)
    (hk_check_clues : PySem.W.keepIn K (.ref f_check_clues) = true)
    (ha_all_rings : PySem.W.nsIn K mainGlobals "all_rings" = some (some (.ref f_all_rings)))
    (hl_all_rings : K.lookup f_all_rings = some ⟨oc_all_rings, od_all_rings, .func (PySem.W.fnOf "all_rings" "all_rings" (defArgs s_all_rings) (defBody s_all_rings) (defScope s_all_rings) .none kV_all_rings dc_all_rings pm_all_rings an_all_rings cd_all_rings ct_all_rings), sl_all_rings⟩)
    (hc_all_rings : PySem.W.codeIn K cd_all_rings "all_rings" = true)
    (hk_all_rings : PySem.W.keepIn K (.ref f_all_rings) = true)
    (ha_fits : PySem.W.nsIn K mainGlobals "fits" = some (some (.ref f_fits)))
    (hl_fits : K.lookup f_fits = some ⟨oc_fits, od_fits, .func (PySem.W.fnOf "fits" "fits" (defArgs s_fits) (defBody s_fits) (defScope s_fits) .none kV_fits dc_fits pm_fits an_fits cd_fits ct_fits), sl_fits⟩)
    (hc_fits : PySem.W.codeIn K cd_fits "fits" = true)
    (hk_fits : PySem.W.keepIn K (.ref f_fits) = true)
    (ha_fitting_of : PySem.W.nsIn K mainGlobals "fitting_of" = some (some (.ref f_fitting_of)))
    (hl_fitting_of : K.lookup f_fitting_of = some ⟨oc_fitting_of, od_fitting_of, .func (PySem.W.fnOf "fitting_of" "fitting_of" (defArgs s_fitting_of) (defBody s_fitting_of) (defScope s_fitting_of) .none kV_fitting_of dc_fitting_of pm_fitting_of an_fitting_of cd_fitting_of ct_fitting_of), sl_fitting_of⟩)
    (hc_fitting_of : PySem.W.codeIn K cd_fitting_of "fitting_of" = true)
    (hk_fitting_of : PySem.W.keepIn K (.ref f_fitting_of) = true)
    (ha_fitting : PySem.W.nsIn K mainGlobals "fitting" = some (some (.ref f_fitting)))
    (hl_fitting : K.lookup f_fitting = some ⟨oc_fitting, od_fitting, .func (PySem.W.fnOf "fitting" "fitting" (defArgs s_fitting) (defBody s_fitting) (defScope s_fitting) .none kV_fitting dc_fitting pm_fitting an_fitting cd_fitting ct_fitting), sl_fitting⟩)
    (hc_fitting : PySem.W.codeIn K cd_fitting "fitting" = true)
    (hk_fitting : PySem.W.keepIn K (.ref f_fitting) = true)
    (ha_l_clues_right : PySem.W.nsIn K mainGlobals "_law_clues_right" = some (some (.ref f_l_clues_right)))
    (hl_l_clues_right : K.lookup f_l_clues_right = some ⟨oc_l_clues_right, od_l_clues_right, .func (PySem.W.fnOf "_law_clues_right" "_law_clues_right" (defArgs s_l_clues_right) (defBody s_l_clues_right) (defScope s_l_clues_right) .none kV_l_clues_right dc_l_clues_right pm_l_clues_right an_l_clues_right cd_l_clues_right ct_l_clues_right), sl_l_clues_right⟩)
    (hc_l_clues_right : PySem.W.codeIn K cd_l_clues_right "_law_clues_right" = true)
    (hk_l_clues_right : PySem.W.keepIn K (.ref f_l_clues_right) = true)
    (h_n_One : PySem.W.nsIn K mainGlobals "One" = some (some (.ref a_cOne)))
    (ha_One_init : PySem.W.findIn K (.ref a_cOne) "__init__" = some (some (.ref f_One_init)))
    (hl_One_init : K.lookup f_One_init = some ⟨oc_One_init, od_One_init, .func (PySem.W.fnOf "__init__" "One.__init__" (defArgs s_One_init) (defBody s_One_init) (defScope s_One_init) .none kV_One_init dc_One_init pm_One_init an_One_init cd_One_init ct_One_init), sl_One_init⟩)
    (hc_One_init : PySem.W.codeIn K cd_One_init "One.__init__" = true)
    (hk_One_init : PySem.W.keepIn K (.ref f_One_init) = true)
    (h_n_Two : PySem.W.nsIn K mainGlobals "Two" = some (some (.ref a_cTwo)))
    (ha_Two_init : PySem.W.findIn K (.ref a_cTwo) "__init__" = some (some (.ref f_Two_init)))
    (hl_Two_init : K.lookup f_Two_init = some ⟨oc_Two_init, od_Two_init, .func (PySem.W.fnOf "__init__" "Two.__init__" (defArgs s_Two_init) (defBody s_Two_init) (defScope s_Two_init) .none kV_Two_init dc_Two_init pm_Two_init an_Two_init cd_Two_init ct_Two_init), sl_Two_init⟩)
    (hc_Two_init : PySem.W.codeIn K cd_Two_init "Two.__init__" = true)
    (hk_Two_init : PySem.W.keepIn K (.ref f_Two_init) = true)
    (ha_told : PySem.W.nsIn K mainGlobals "told" = some (some (.ref f_told)))
    (hl_told : K.lookup f_told = some ⟨oc_told, od_told, .func (PySem.W.fnOf "told" "told" (defArgs s_told) (defBody s_told) (defScope s_told) .none kV_told dc_told pm_told an_told cd_told ct_told), sl_told⟩)
    (hc_told : PySem.W.codeIn K cd_told "told" = true)
    (hk_told : PySem.W.keepIn K (.ref f_told) = true)
    (ha_l_fields : PySem.W.nsIn K mainGlobals "_law_fields" = some (some (.ref f_l_fields)))
    (hl_l_fields : K.lookup f_l_fields = some ⟨oc_l_fields, od_l_fields, .func (PySem.W.fnOf "_law_fields" "_law_fields" (defArgs s_l_fields) (defBody s_l_fields) (defScope s_l_fields) .none kV_l_fields dc_l_fields pm_l_fields an_l_fields cd_l_fields ct_l_fields), sl_l_fields⟩)
    (hc_l_fields : PySem.W.codeIn K cd_l_fields "_law_fields" = true)
    (hk_l_fields : PySem.W.keepIn K (.ref f_l_fields) = true)
    (ha_One_shows : PySem.W.findIn K (.ref a_cOne) "shows" = some (some (.ref f_One_shows)))
    (hl_One_shows : K.lookup f_One_shows = some ⟨oc_One_shows, od_One_shows, .func (PySem.W.fnOf "shows" "One.shows" (defArgs s_One_shows) (defBody s_One_shows) (defScope s_One_shows) .none kV_One_shows dc_One_shows pm_One_shows an_One_shows cd_One_shows ct_One_shows), sl_One_shows⟩)
    (hc_One_shows : PySem.W.codeIn K cd_One_shows "One.shows" = true)
    (hk_One_shows : PySem.W.keepIn K (.ref f_One_shows) = true)
    (ha_Two_shows : PySem.W.findIn K (.ref a_cTwo) "shows" = some (some (.ref f_Two_shows)))
    (hl_Two_shows : K.lookup f_Two_shows = some ⟨oc_Two_shows, od_Two_shows, .func (PySem.W.fnOf "shows" "Two.shows" (defArgs s_Two_shows) (defBody s_Two_shows) (defScope s_Two_shows) .none kV_Two_shows dc_Two_shows pm_Two_shows an_Two_shows cd_Two_shows ct_Two_shows), sl_Two_shows⟩)
    (hc_Two_shows : PySem.W.codeIn K cd_Two_shows "Two.shows" = true)
    (hk_Two_shows : PySem.W.keepIn K (.ref f_Two_shows) = true)
    (h_n_Never : PySem.W.nsIn K mainGlobals "Never" = some (some (.ref a_cNever)))
    (ha_Never_shows : PySem.W.findIn K (.ref a_cNever) "shows" = some (some (.ref f_Never_shows)))
    (hl_Never_shows : K.lookup f_Never_shows = some ⟨oc_Never_shows, od_Never_shows, .func (PySem.W.fnOf "shows" "Never.shows" (defArgs s_Never_shows) (defBody s_Never_shows) (defScope s_Never_shows) .none kV_Never_shows dc_Never_shows pm_Never_shows an_Never_shows cd_Never_shows ct_Never_shows), sl_Never_shows⟩)
    (hc_Never_shows : PySem.W.codeIn K cd_Never_shows "Never.shows" = true)
    (hk_Never_shows : PySem.W.keepIn K (.ref f_Never_shows) = true)
    (ha_l_tell_right : PySem.W.nsIn K mainGlobals "_law_tell_right" = some (some (.ref f_l_tell_right)))
    (hl_l_tell_right : K.lookup f_l_tell_right = some ⟨oc_l_tell_right, od_l_tell_right, .func (PySem.W.fnOf "_law_tell_right" "_law_tell_right" (defArgs s_l_tell_right) (defBody s_l_tell_right) (defScope s_l_tell_right) .none kV_l_tell_right dc_l_tell_right pm_l_tell_right an_l_tell_right cd_l_tell_right ct_l_tell_right), sl_l_tell_right⟩)
    (hc_l_tell_right : PySem.W.codeIn K cd_l_tell_right "_law_tell_right" = true)
    (hk_l_tell_right : PySem.W.keepIn K (.ref f_l_tell_right) = true)
    (ha_check_few : PySem.W.nsIn K mainGlobals "check_few" = some (some (.ref f_check_few)))
    (hl_check_few : K.lookup f_check_few = some ⟨oc_check_few, od_check_few, .func (PySem.W.fnOf "check_few" "check_few" (defArgs s_check_few) (defBody s_check_few) (defScope s_check_few) .none kV_check_few dc_check_few pm_check_few an_check_few cd_check_few ct_check_few), sl_check_few⟩)
    (hc_check_few : PySem.W.codeIn K cd_check_few "check_few" = true)
    (hk_check_few : PySem.W.keepIn K (.ref f_check_few) = true)
    (ha_rings : PySem.W.nsIn K mainGlobals "rings" = some (some (.ref f_rings)))
    (hl_rings : K.lookup f_rings = some ⟨oc_rings, od_rings, .func (PySem.W.fnOf "rings" "rings" (defArgs s_rings) (defBody s_rings) (defScope s_rings) .none kV_rings dc_rings pm_rings an_rings cd_rings ct_rings), sl_rings⟩)
    (hc_rings : PySem.W.codeIn K cd_rings "rings" = true)
    (hk_rings : PySem.W.keepIn K (.ref f_rings) = true)
    (ha_law10 : PySem.W.nsIn K mainGlobals "law" = some (some (.ref f_law10)))
    (hl_law10 : K.lookup f_law10 = some ⟨oc_law10, od_law10, .func (PySem.W.fnOf "law" "law" (defArgs s_law10) (defBody s_law10) (defScope s_law10) .none kV_law10 dc_law10 pm_law10 an_law10 cd_law10 ct_law10), sl_law10⟩)
    (hc_law10 : PySem.W.codeIn K cd_law10 "law" = true)
    (hk_law10 : PySem.W.keepIn K (.ref f_law10) = true)
    (hcd_law10 : cd_law10 = .ref cc_law10)
    (hlc_law10 : K.lookup cc_law10 = some ⟨ev_law10, dv_law10, .fields vv_law10, sv_law10⟩)
    (h11_law10 : vv_law10[11]? = some (.ref pp_law10))
    (hnl_law10 : K.lookup pp_law10 = none)
    (hne_l_cells_right_law10 : pp_l_cells_right ≠ pp_law10)
    (hz_isinstance : PySem.W.nsIn K mainGlobals "isinstance" = some none)
    (hz_int : PySem.W.nsIn K mainGlobals "int" = some none)
    (hz_bool : PySem.W.nsIn K mainGlobals "bool" = some none)
    (hz_tuple : PySem.W.nsIn K mainGlobals "tuple" = some none)
    (hz_len : PySem.W.nsIn K mainGlobals "len" = some none)
    (hz_all : PySem.W.nsIn K mainGlobals "all" = some none)
    (hg_MOST : PySem.W.nsIn K mainGlobals "MOST" = some (some (.int 6 k_MOST)))
    (h_n_BadGrid : PySem.W.nsIn K mainGlobals "BadGrid" = some (some (.ref a_cBadGrid)))
    (h_x_BadGrid : PySem.W.excIn K a_cBadGrid [.type "ValueError", .type "Exception", .type "BaseException", .type "object"] "ValueError.__new__" = true)
    (h_k_BadGrid : PySem.W.keepIn K (.ref a_cBadGrid) = true)
    (h_e_BadGrid : PySem.W.subIn K (.ref a_cBadGrid) (.type "BaseException") = some true)
    (h_y_BadGrid : PySem.W.typeIn K (.ref a_cBadGrid) = some (.type "type"))
    (hz_list : PySem.W.nsIn K mainGlobals "list" = some none)
    (h_n_BadCells : PySem.W.nsIn K mainGlobals "BadCells" = some (some (.ref a_cBadCells)))
    (h_x_BadCells : PySem.W.excIn K a_cBadCells [.type "ValueError", .type "Exception", .type "BaseException", .type "object"] "ValueError.__new__" = true)
    (h_k_BadCells : PySem.W.keepIn K (.ref a_cBadCells) = true)
    (h_e_BadCells : PySem.W.subIn K (.ref a_cBadCells) (.type "BaseException") = some true)
    (h_y_BadCells : PySem.W.typeIn K (.ref a_cBadCells) = some (.type "type"))
    (hz_any : PySem.W.nsIn K mainGlobals "any" = some none)
    (hz_zip : PySem.W.nsIn K mainGlobals "zip" = some none)
    (hz_range : PySem.W.nsIn K mainGlobals "range" = some none)
    (h_n_NoRing : PySem.W.nsIn K mainGlobals "NoRing" = some (some (.ref a_cNoRing)))
    (h_x_NoRing : PySem.W.excIn K a_cNoRing [.type "ValueError", .type "Exception", .type "BaseException", .type "object"] "ValueError.__new__" = true)
    (h_k_NoRing : PySem.W.keepIn K (.ref a_cNoRing) = true)
    (h_e_NoRing : PySem.W.subIn K (.ref a_cNoRing) (.type "BaseException") = some true)
    (h_y_NoRing : PySem.W.typeIn K (.ref a_cNoRing) = some (.type "type"))
    (pg_Split : PySem.W.plainGet K a_cSplit Str.empty = true)
    (hd_Split : PySem.W.hasDictIn K a_cSplit = true)
    (po_Split : PySem.W.plainOver K a_cSplit = true)
    (sa_Split : PySem.W.findIn K (.ref a_cSplit) "__setattr__" = some (some (.builtin "object.__setattr__")))
    (na_Split_one : PySem.W.findIn K (.ref a_cSplit) "one" = some none)
    (na_Split_other : PySem.W.findIn K (.ref a_cSplit) "other" = some none)
    (pg_Hole : PySem.W.plainGet K a_cHole Str.empty = true)
    (hd_Hole : PySem.W.hasDictIn K a_cHole = true)
    (po_Hole : PySem.W.plainOver K a_cHole = true)
    (sa_Hole : PySem.W.findIn K (.ref a_cHole) "__setattr__" = some (some (.builtin "object.__setattr__")))
    (na_Hole_cell : PySem.W.findIn K (.ref a_cHole) "cell" = some none)
    (mk_Split : PySem.W.makesIn K a_cSplit = true)
    (kc_Split : PySem.W.keepIn K (.ref a_cSplit) = true)
    (if_Split_init : PySem.W.isFn K (.ref f_Split_init) = true)
    (mk_Ring : PySem.W.makesIn K a_cRing = true)
    (kc_Ring : PySem.W.keepIn K (.ref a_cRing) = true)
    (oi_Ring : PySem.W.findIn K (.ref a_cRing) "__init__" = some (some (.builtin "object.__init__")))
    (mk_Hole : PySem.W.makesIn K a_cHole = true)
    (kc_Hole : PySem.W.keepIn K (.ref a_cHole) = true)
    (if_Hole_init : PySem.W.isFn K (.ref f_Hole_init) = true)
    (pg_Ring : PySem.W.plainGet K a_cRing Str.empty = true)
    (hd_Ring : PySem.W.hasDictIn K a_cRing = true)
    (po_Ring : PySem.W.plainOver K a_cRing = true)
    (sa_Ring : PySem.W.findIn K (.ref a_cRing) "__setattr__" = some (some (.builtin "object.__setattr__")))
    (if_Ring_shows : PySem.W.isFn K (.ref f_Ring_shows) = true)
    (if_Split_shows : PySem.W.isFn K (.ref f_Split_shows) = true)
    (if_Hole_shows : PySem.W.isFn K (.ref f_Hole_shows) = true)
    (hz_enumerate : PySem.W.nsIn K mainGlobals "enumerate" = some none)
    (ca_Ring : PySem.W.findIn K (.ref a_cRing) "__class__" = some (some (.builtin "object.__class__")))
    (cb_Ring : PySem.W.specialIn K (.builtin "object.__class__") "__get__" = some (some (.builtin "getset_descriptor.__get__")))
    (cc_Ring : PySem.W.takesIn K (.builtin "object.__class__") = some true)
    (cd_Ring : PySem.W.mroIn K a_cRing (.type "object") = some true)
    (ca_Split : PySem.W.findIn K (.ref a_cSplit) "__class__" = some (some (.builtin "object.__class__")))
    (cb_Split : PySem.W.specialIn K (.builtin "object.__class__") "__get__" = some (some (.builtin "getset_descriptor.__get__")))
    (cc_Split : PySem.W.takesIn K (.builtin "object.__class__") = some true)
    (cd_Split : PySem.W.mroIn K a_cSplit (.type "object") = some true)
    (ic_Ring : PySem.W.isClsIn K a_cRing = true)
    (it_Ring : PySem.W.typeIn K (.ref a_cRing) = some (.type "type"))
    (is_Ring : PySem.W.subIn K (.ref a_cRing) (.ref a_cRing) = some true)
    (h_ki_Split_Ring : PySem.W.subIn K (.ref a_cSplit) (.ref a_cRing) = some false)
    (ic_Split : PySem.W.isClsIn K a_cSplit = true)
    (it_Split : PySem.W.typeIn K (.ref a_cSplit) = some (.type "type"))
    (is_Split : PySem.W.subIn K (.ref a_cSplit) (.ref a_cSplit) = some true)
    (h_ki_Ring_Split : PySem.W.subIn K (.ref a_cRing) (.ref a_cSplit) = some false)
    (h_n_BadClues : PySem.W.nsIn K mainGlobals "BadClues" = some (some (.ref a_cBadClues)))
    (h_x_BadClues : PySem.W.excIn K a_cBadClues [.type "ValueError", .type "Exception", .type "BaseException", .type "object"] "ValueError.__new__" = true)
    (h_k_BadClues : PySem.W.keepIn K (.ref a_cBadClues) = true)
    (h_e_BadClues : PySem.W.subIn K (.ref a_cBadClues) (.type "BaseException") = some true)
    (h_y_BadClues : PySem.W.typeIn K (.ref a_cBadClues) = some (.type "type"))
    (hg_FEW : PySem.W.nsIn K mainGlobals "FEW" = some (some (.int 9 k_FEW)))
    (hz_sorted : PySem.W.nsIn K mainGlobals "sorted" = some none)
    (pg_One : PySem.W.plainGet K a_cOne Str.empty = true)
    (hd_One : PySem.W.hasDictIn K a_cOne = true)
    (po_One : PySem.W.plainOver K a_cOne = true)
    (sa_One : PySem.W.findIn K (.ref a_cOne) "__setattr__" = some (some (.builtin "object.__setattr__")))
    (na_One_cells : PySem.W.findIn K (.ref a_cOne) "cells" = some none)
    (pg_Two : PySem.W.plainGet K a_cTwo Str.empty = true)
    (hd_Two : PySem.W.hasDictIn K a_cTwo = true)
    (po_Two : PySem.W.plainOver K a_cTwo = true)
    (sa_Two : PySem.W.findIn K (.ref a_cTwo) "__setattr__" = some (some (.builtin "object.__setattr__")))
    (na_Two_one : PySem.W.findIn K (.ref a_cTwo) "one" = some none)
    (na_Two_other : PySem.W.findIn K (.ref a_cTwo) "other" = some none)
    (mk_Never : PySem.W.makesIn K a_cNever = true)
    (kc_Never : PySem.W.keepIn K (.ref a_cNever) = true)
    (oi_Never : PySem.W.findIn K (.ref a_cNever) "__init__" = some (some (.builtin "object.__init__")))
    (mk_One : PySem.W.makesIn K a_cOne = true)
    (kc_One : PySem.W.keepIn K (.ref a_cOne) = true)
    (if_One_init : PySem.W.isFn K (.ref f_One_init) = true)
    (mk_Two : PySem.W.makesIn K a_cTwo = true)
    (kc_Two : PySem.W.keepIn K (.ref a_cTwo) = true)
    (if_Two_init : PySem.W.isFn K (.ref f_Two_init) = true)
    (ca_One : PySem.W.findIn K (.ref a_cOne) "__class__" = some (some (.builtin "object.__class__")))
    (cb_One : PySem.W.specialIn K (.builtin "object.__class__") "__get__" = some (some (.builtin "getset_descriptor.__get__")))
    (cc_One : PySem.W.takesIn K (.builtin "object.__class__") = some true)
    (cd_One : PySem.W.mroIn K a_cOne (.type "object") = some true)
    (ca_Two : PySem.W.findIn K (.ref a_cTwo) "__class__" = some (some (.builtin "object.__class__")))
    (cb_Two : PySem.W.specialIn K (.builtin "object.__class__") "__get__" = some (some (.builtin "getset_descriptor.__get__")))
    (cc_Two : PySem.W.takesIn K (.builtin "object.__class__") = some true)
    (cd_Two : PySem.W.mroIn K a_cTwo (.type "object") = some true)
    (pg_Never : PySem.W.plainGet K a_cNever Str.empty = true)
    (hd_Never : PySem.W.hasDictIn K a_cNever = true)
    (po_Never : PySem.W.plainOver K a_cNever = true)
    (sa_Never : PySem.W.findIn K (.ref a_cNever) "__setattr__" = some (some (.builtin "object.__setattr__")))
    (ca_Never : PySem.W.findIn K (.ref a_cNever) "__class__" = some (some (.builtin "object.__class__")))
    (cb_Never : PySem.W.specialIn K (.builtin "object.__class__") "__get__" = some (some (.builtin "getset_descriptor.__get__")))
    (cc_Never : PySem.W.takesIn K (.builtin "object.__class__") = some true)
    (cd_Never : PySem.W.mroIn K a_cNever (.type "object") = some true)
    (ic_One : PySem.W.isClsIn K a_cOne = true)
    (it_One : PySem.W.typeIn K (.ref a_cOne) = some (.type "type"))
    (is_One : PySem.W.subIn K (.ref a_cOne) (.ref a_cOne) = some true)
    (h_ki_Two_One : PySem.W.subIn K (.ref a_cTwo) (.ref a_cOne) = some false)
    (h_ki_Never_One : PySem.W.subIn K (.ref a_cNever) (.ref a_cOne) = some false)
    (ic_Two : PySem.W.isClsIn K a_cTwo = true)
    (it_Two : PySem.W.typeIn K (.ref a_cTwo) = some (.type "type"))
    (is_Two : PySem.W.subIn K (.ref a_cTwo) (.ref a_cTwo) = some true)
    (h_ki_One_Two : PySem.W.subIn K (.ref a_cOne) (.ref a_cTwo) = some false)
    (h_ki_Never_Two : PySem.W.subIn K (.ref a_cNever) (.ref a_cTwo) = some false)
    (if_One_shows : PySem.W.isFn K (.ref f_One_shows) = true)
    (if_Two_shows : PySem.W.isFn K (.ref f_Two_shows) = true)
    (if_Never_shows : PySem.W.isFn K (.ref f_Never_shows) = true)
    (hz_abs : PySem.W.nsIn K mainGlobals "abs" = some none)
    (hz_sum : PySem.W.nsIn K mainGlobals "sum" = some none) :
    LamX.LawAtS l w K CX0 11 63 "_law_script" mg fa h := by
  have e := hfa.symm.trans (PySem.W.mg_of X G ha_law10)
  cases e
  let T : Tx K mg :=
    { C := { cBadGrid := a_cBadGrid, cBadCells := a_cBadCells, cBadClues := a_cBadClues, cNoRing := a_cNoRing, cRingError := 0, cRing := a_cRing, cSplit := a_cSplit, cHole := a_cHole, cOne := a_cOne, cTwo := a_cTwo, cNever := a_cNever, cAnswer := 0 },
      f_is_whole := f_is_whole,
      fd_is_whole := PySem.W.fnOf "is_whole" "is_whole" (defArgs s_is_whole) (defBody s_is_whole) (defScope s_is_whole) .none kV_is_whole dc_is_whole pm_is_whole an_is_whole cd_is_whole ct_is_whole,
      F_is_whole := fun_mk (st := s_is_whole) hl_is_whole hc_is_whole hk_is_whole,
      g_is_whole := PySem.W.mg_of X G ha_is_whole,
      b_is_whole := (fun_mk (st := s_is_whole) hl_is_whole hc_is_whole hk_is_whole).binds (ps := ["thing"]) fun _ _ _ _ _ _ us hl => match us, hl with | [_], _ => rfl,
      f_check_grid := f_check_grid,
      fd_check_grid := PySem.W.fnOf "check_grid" "check_grid" (defArgs s_check_grid) (defBody s_check_grid) (defScope s_check_grid) .none kV_check_grid dc_check_grid pm_check_grid an_check_grid cd_check_grid ct_check_grid,
      F_check_grid := fun_mk (st := s_check_grid) hl_check_grid hc_check_grid hk_check_grid,
      g_check_grid := PySem.W.mg_of X G ha_check_grid,
      b_check_grid := (fun_mk (st := s_check_grid) hl_check_grid hc_check_grid hk_check_grid).binds (ps := ["grid"]) fun _ _ _ _ _ _ us hl => match us, hl with | [_], _ => rfl,
      f_check_cells := f_check_cells,
      fd_check_cells := PySem.W.fnOf "check_cells" "check_cells" (defArgs s_check_cells) (defBody s_check_cells) (defScope s_check_cells) .none kV_check_cells dc_check_cells pm_check_cells an_check_cells cd_check_cells ct_check_cells,
      F_check_cells := fun_mk (st := s_check_cells) hl_check_cells hc_check_cells hk_check_cells,
      g_check_cells := PySem.W.mg_of X G ha_check_cells,
      b_check_cells := (fun_mk (st := s_check_cells) hl_check_cells hc_check_cells hk_check_cells).binds (ps := ["grid", "cells"]) fun _ _ _ _ _ _ us hl => match us, hl with | [_, _], _ => rfl,
      f_beside := f_beside,
      fd_beside := PySem.W.fnOf "beside" "beside" (defArgs s_beside) (defBody s_beside) (defScope s_beside) .none kV_beside dc_beside pm_beside an_beside cd_beside ct_beside,
      F_beside := fun_mk (st := s_beside) hl_beside hc_beside hk_beside,
      g_beside := PySem.W.mg_of X G ha_beside,
      b_beside := (fun_mk (st := s_beside) hl_beside hc_beside hk_beside).binds (ps := ["grid", "cell"]) fun _ _ _ _ _ _ us hl => match us, hl with | [_, _], _ => rfl,
      f_sides_of := f_sides_of,
      fd_sides_of := PySem.W.fnOf "sides_of" "sides_of" (defArgs s_sides_of) (defBody s_sides_of) (defScope s_sides_of) .none kV_sides_of dc_sides_of pm_sides_of an_sides_of cd_sides_of ct_sides_of,
      F_sides_of := fun_mk (st := s_sides_of) hl_sides_of hc_sides_of hk_sides_of,
      g_sides_of := PySem.W.mg_of X G ha_sides_of,
      b_sides_of := (fun_mk (st := s_sides_of) hl_sides_of hc_sides_of hk_sides_of).binds (ps := ["grid", "cells", "cell"]) fun _ _ _ _ _ _ us hl => match us, hl with | [_, _, _], _ => rfl,
      f_numbers_of := f_numbers_of,
      fd_numbers_of := PySem.W.fnOf "numbers_of" "numbers_of" (defArgs s_numbers_of) (defBody s_numbers_of) (defScope s_numbers_of) .none kV_numbers_of dc_numbers_of pm_numbers_of an_numbers_of cd_numbers_of ct_numbers_of,
      F_numbers_of := fun_mk (st := s_numbers_of) hl_numbers_of hc_numbers_of hk_numbers_of,
      g_numbers_of := PySem.W.mg_of X G ha_numbers_of,
      b_numbers_of := (fun_mk (st := s_numbers_of) hl_numbers_of hc_numbers_of hk_numbers_of).binds (ps := ["grid", "cells"]) fun _ _ _ _ _ _ us hl => match us, hl with | [_, _], _ => rfl,
      f_numbers := f_numbers,
      fd_numbers := PySem.W.fnOf "numbers" "numbers" (defArgs s_numbers) (defBody s_numbers) (defScope s_numbers) .none kV_numbers dc_numbers pm_numbers an_numbers cd_numbers ct_numbers,
      F_numbers := fun_mk (st := s_numbers) hl_numbers hc_numbers hk_numbers,
      g_numbers := PySem.W.mg_of X G ha_numbers,
      b_numbers := (fun_mk (st := s_numbers) hl_numbers hc_numbers hk_numbers).binds (ps := ["grid", "cells"]) fun _ _ _ _ _ _ us hl => match us, hl with | [_, _], _ => rfl,
      f_spread := f_spread,
      fd_spread := PySem.W.fnOf "spread" "spread" (defArgs s_spread) (defBody s_spread) (defScope s_spread) .none kV_spread dc_spread pm_spread an_spread cd_spread ct_spread,
      F_spread := fun_mk (st := s_spread) hl_spread hc_spread hk_spread,
      g_spread := PySem.W.mg_of X G ha_spread,
      b_spread := (fun_mk (st := s_spread) hl_spread hc_spread hk_spread).binds (ps := ["grid", "first", "some"]) fun _ _ _ _ _ _ us hl => match us, hl with | [_, _, _], _ => rfl,
      f_is_inner := f_is_inner,
      fd_is_inner := PySem.W.fnOf "is_inner" "is_inner" (defArgs s_is_inner) (defBody s_is_inner) (defScope s_is_inner) .none kV_is_inner dc_is_inner pm_is_inner an_is_inner cd_is_inner ct_is_inner,
      F_is_inner := fun_mk (st := s_is_inner) hl_is_inner hc_is_inner hk_is_inner,
      g_is_inner := PySem.W.mg_of X G ha_is_inner,
      b_is_inner := (fun_mk (st := s_is_inner) hl_is_inner hc_is_inner hk_is_inner).binds (ps := ["grid", "cells", "cell"]) fun _ _ _ _ _ _ us hl => match us, hl with | [_, _, _], _ => rfl,
      f_first_inner := f_first_inner,
      fd_first_inner := PySem.W.fnOf "first_inner" "first_inner" (defArgs s_first_inner) (defBody s_first_inner) (defScope s_first_inner) .none kV_first_inner dc_first_inner pm_first_inner an_first_inner cd_first_inner ct_first_inner,
      F_first_inner := fun_mk (st := s_first_inner) hl_first_inner hc_first_inner hk_first_inner,
      g_first_inner := PySem.W.mg_of X G ha_first_inner,
      b_first_inner := (fun_mk (st := s_first_inner) hl_first_inner hc_first_inner hk_first_inner).binds (ps := ["grid", "cells"]) fun _ _ _ _ _ _ us hl => match us, hl with | [_, _], _ => rfl,
      f_is_ring := f_is_ring,
      fd_is_ring := PySem.W.fnOf "is_ring" "is_ring" (defArgs s_is_ring) (defBody s_is_ring) (defScope s_is_ring) .none kV_is_ring dc_is_ring pm_is_ring an_is_ring cd_is_ring ct_is_ring,
      F_is_ring := fun_mk (st := s_is_ring) hl_is_ring hc_is_ring hk_is_ring,
      g_is_ring := PySem.W.mg_of X G ha_is_ring,
      b_is_ring := (fun_mk (st := s_is_ring) hl_is_ring hc_is_ring hk_is_ring).binds (ps := ["grid", "cells"]) fun _ _ _ _ _ _ us hl => match us, hl with | [_, _], _ => rfl,
      f_side_ahead := f_side_ahead,
      fd_side_ahead := PySem.W.fnOf "side_ahead" "side_ahead" (defArgs s_side_ahead) (defBody s_side_ahead) (defScope s_side_ahead) .none kV_side_ahead dc_side_ahead pm_side_ahead an_side_ahead cd_side_ahead ct_side_ahead,
      F_side_ahead := fun_mk (st := s_side_ahead) hl_side_ahead hc_side_ahead hk_side_ahead,
      g_side_ahead := PySem.W.mg_of X G ha_side_ahead,
      b_side_ahead := (fun_mk (st := s_side_ahead) hl_side_ahead hc_side_ahead hk_side_ahead).binds (ps := ["grid", "cells", "point", "turn"]) fun _ _ _ _ _ _ us hl => match us, hl with | [_, _, _, _], _ => rfl,
      f_walk := f_walk,
      fd_walk := PySem.W.fnOf "walk" "walk" (defArgs s_walk) (defBody s_walk) (defScope s_walk) .none kV_walk dc_walk pm_walk an_walk cd_walk ct_walk,
      F_walk := fun_mk (st := s_walk) hl_walk hc_walk hk_walk,
      g_walk := PySem.W.mg_of X G ha_walk,
      b_walk := (fun_mk (st := s_walk) hl_walk hc_walk hk_walk).binds (ps := ["grid", "cells"]) fun _ _ _ _ _ _ us hl => match us, hl with | [_, _], _ => rfl,
      g_Split := PySem.W.mg_of X G h_n_Split,
      f_Split_init := f_Split_init,
      fd_Split_init := PySem.W.fnOf "__init__" "Split.__init__" (defArgs s_Split_init) (defBody s_Split_init) (defScope s_Split_init) .none kV_Split_init dc_Split_init pm_Split_init an_Split_init cd_Split_init ct_Split_init,
      F_Split_init := fun_mk (st := s_Split_init) hl_Split_init hc_Split_init hk_Split_init,
      b_Split_init := (fun_mk (st := s_Split_init) hl_Split_init hc_Split_init hk_Split_init).binds (ps := ["self", "one", "other"]) fun _ _ _ _ _ _ us hl => match us, hl with | [_, _, _], _ => rfl,
      g_Hole := PySem.W.mg_of X G h_n_Hole,
      f_Hole_init := f_Hole_init,
      fd_Hole_init := PySem.W.fnOf "__init__" "Hole.__init__" (defArgs s_Hole_init) (defBody s_Hole_init) (defScope s_Hole_init) .none kV_Hole_init dc_Hole_init pm_Hole_init an_Hole_init cd_Hole_init ct_Hole_init,
      F_Hole_init := fun_mk (st := s_Hole_init) hl_Hole_init hc_Hole_init hk_Hole_init,
      b_Hole_init := (fun_mk (st := s_Hole_init) hl_Hole_init hc_Hole_init hk_Hole_init).binds (ps := ["self", "cell"]) fun _ _ _ _ _ _ us hl => match us, hl with | [_, _], _ => rfl,
      f_judged := f_judged,
      fd_judged := PySem.W.fnOf "judged" "judged" (defArgs s_judged) (defBody s_judged) (defScope s_judged) .none kV_judged dc_judged pm_judged an_judged cd_judged ct_judged,
      F_judged := fun_mk (st := s_judged) hl_judged hc_judged hk_judged,
      g_judged := PySem.W.mg_of X G ha_judged,
      b_judged := (fun_mk (st := s_judged) hl_judged hc_judged hk_judged).binds (ps := ["grid", "cells"]) fun _ _ _ _ _ _ us hl => match us, hl with | [_, _], _ => rfl,
      g_Ring := PySem.W.mg_of X G h_n_Ring,
      f_Ring_shows := f_Ring_shows,
      fd_Ring_shows := PySem.W.fnOf "shows" "Ring.shows" (defArgs s_Ring_shows) (defBody s_Ring_shows) (defScope s_Ring_shows) .none kV_Ring_shows dc_Ring_shows pm_Ring_shows an_Ring_shows cd_Ring_shows ct_Ring_shows,
      F_Ring_shows := fun_mk (st := s_Ring_shows) hl_Ring_shows hc_Ring_shows hk_Ring_shows,
      b_Ring_shows := (fun_mk (st := s_Ring_shows) hl_Ring_shows hc_Ring_shows hk_Ring_shows).binds (ps := ["self", "grid", "cells"]) fun _ _ _ _ _ _ us hl => match us, hl with | [_, _, _], _ => rfl,
      f_Split_shows := f_Split_shows,
      fd_Split_shows := PySem.W.fnOf "shows" "Split.shows" (defArgs s_Split_shows) (defBody s_Split_shows) (defScope s_Split_shows) .none kV_Split_shows dc_Split_shows pm_Split_shows an_Split_shows cd_Split_shows ct_Split_shows,
      F_Split_shows := fun_mk (st := s_Split_shows) hl_Split_shows hc_Split_shows hk_Split_shows,
      b_Split_shows := (fun_mk (st := s_Split_shows) hl_Split_shows hc_Split_shows hk_Split_shows).binds (ps := ["self", "grid", "cells"]) fun _ _ _ _ _ _ us hl => match us, hl with | [_, _, _], _ => rfl,
      f_Hole_shows := f_Hole_shows,
      fd_Hole_shows := PySem.W.fnOf "shows" "Hole.shows" (defArgs s_Hole_shows) (defBody s_Hole_shows) (defScope s_Hole_shows) .none kV_Hole_shows dc_Hole_shows pm_Hole_shows an_Hole_shows cd_Hole_shows ct_Hole_shows,
      F_Hole_shows := fun_mk (st := s_Hole_shows) hl_Hole_shows hc_Hole_shows hk_Hole_shows,
      b_Hole_shows := (fun_mk (st := s_Hole_shows) hl_Hole_shows hc_Hole_shows hk_Hole_shows).binds (ps := ["self", "grid", "cells"]) fun _ _ _ _ _ _ us hl => match us, hl with | [_, _, _], _ => rfl,
      f_l_door_right := f_l_door_right,
      fd_l_door_right := PySem.W.fnOf "_law_door_right" "_law_door_right" (defArgs s_l_door_right) (defBody s_l_door_right) (defScope s_l_door_right) .none kV_l_door_right dc_l_door_right pm_l_door_right an_l_door_right cd_l_door_right ct_l_door_right,
      F_l_door_right := fun_mk (st := s_l_door_right) hl_l_door_right hc_l_door_right hk_l_door_right,
      g_l_door_right := PySem.W.mg_of X G ha_l_door_right,
      b_l_door_right := (fun_mk (st := s_l_door_right) hl_l_door_right hc_l_door_right hk_l_door_right).binds (ps := ["_law_ask", "_law_one", "_law_other"]) fun _ _ _ _ _ _ us hl => match us, hl with | [_, _, _], _ => rfl,
      f_l_cells_right := f_l_cells_right,
      fd_l_cells_right := PySem.W.fnOf "_law_cells_right" "_law_cells_right" (defArgs s_l_cells_right) (defBody s_l_cells_right) (defScope s_l_cells_right) .none kV_l_cells_right dc_l_cells_right pm_l_cells_right an_l_cells_right cd_l_cells_right ct_l_cells_right,
      F_l_cells_right := fun_mk (st := s_l_cells_right) hl_l_cells_right hc_l_cells_right hk_l_cells_right,
      cc_l_cells_right := cc_l_cells_right,
      pp_l_cells_right := pp_l_cells_right,
      hcd_l_cells_right := hcd_l_cells_right,
      g_l_cells_right := PySem.W.mg_of X G ha_l_cells_right,
      b_l_cells_right := (fun_mk (st := s_l_cells_right) hl_l_cells_right hc_l_cells_right hk_l_cells_right).binds (ps := ["_law_high", "_law_wide", "_law_many", "_law_at"]) fun _ _ _ _ _ _ us hl => match us, hl with | [_, _, _, _], _ => rfl,
      f_l_apart_right := f_l_apart_right,
      fd_l_apart_right := PySem.W.fnOf "_law_apart_right" "_law_apart_right" (defArgs s_l_apart_right) (defBody s_l_apart_right) (defScope s_l_apart_right) .none kV_l_apart_right dc_l_apart_right pm_l_apart_right an_l_apart_right cd_l_apart_right ct_l_apart_right,
      F_l_apart_right := fun_mk (st := s_l_apart_right) hl_l_apart_right hc_l_apart_right hk_l_apart_right,
      g_l_apart_right := PySem.W.mg_of X G ha_l_apart_right,
      b_l_apart_right := (fun_mk (st := s_l_apart_right) hl_l_apart_right hc_l_apart_right hk_l_apart_right).binds (ps := ["_law_high", "_law_wide"]) fun _ _ _ _ _ _ us hl => match us, hl with | [_, _], _ => rfl,
      f_l_copied := f_l_copied,
      fd_l_copied := PySem.W.fnOf "_law_copied" "_law_copied" (defArgs s_l_copied) (defBody s_l_copied) (defScope s_l_copied) .none kV_l_copied dc_l_copied pm_l_copied an_l_copied cd_l_copied ct_l_copied,
      F_l_copied := fun_mk (st := s_l_copied) hl_l_copied hc_l_copied hk_l_copied,
      g_l_copied := PySem.W.mg_of X G ha_l_copied,
      b_l_copied := (fun_mk (st := s_l_copied) hl_l_copied hc_l_copied hk_l_copied).binds (ps := ["_law_rows"]) fun _ _ _ _ _ _ us hl => match us, hl with | [_], _ => rfl,
      f_check_clues := f_check_clues,
      fd_check_clues := PySem.W.fnOf "check_clues" "check_clues" (defArgs s_check_clues) (defBody s_check_clues) (defScope s_check_clues) .none kV_check_clues dc_check_clues pm_check_clues an_check_clues cd_check_clues ct_check_clues,
      F_check_clues := fun_mk (st := s_check_clues) hl_check_clues hc_check_clues hk_check_clues,
      g_check_clues := PySem.W.mg_of X G ha_check_clues,
      b_check_clues := (fun_mk (st := s_check_clues) hl_check_clues hc_check_clues hk_check_clues).binds (ps := ["clues"]) fun _ _ _ _ _ _ us hl => match us, hl with | [_], _ => rfl,
      f_all_rings := f_all_rings,
      fd_all_rings := PySem.W.fnOf "all_rings" "all_rings" (defArgs s_all_rings) (defBody s_all_rings) (defScope s_all_rings) .none kV_all_rings dc_all_rings pm_all_rings an_all_rings cd_all_rings ct_all_rings,
      F_all_rings := fun_mk (st := s_all_rings) hl_all_rings hc_all_rings hk_all_rings,
      g_all_rings := PySem.W.mg_of X G ha_all_rings,
      b_all_rings := (fun_mk (st := s_all_rings) hl_all_rings hc_all_rings hk_all_rings).binds (ps := ["grid"]) fun _ _ _ _ _ _ us hl => match us, hl with | [_], _ => rfl,
      f_fits := f_fits,
      fd_fits := PySem.W.fnOf "fits" "fits" (defArgs s_fits) (defBody s_fits) (defScope s_fits) .none kV_fits dc_fits pm_fits an_fits cd_fits ct_fits,
      F_fits := fun_mk (st := s_fits) hl_fits hc_fits hk_fits,
      g_fits := PySem.W.mg_of X G ha_fits,
      b_fits := (fun_mk (st := s_fits) hl_fits hc_fits hk_fits).binds (ps := ["clues", "cells"]) fun _ _ _ _ _ _ us hl => match us, hl with | [_, _], _ => rfl,
      f_fitting_of := f_fitting_of,
      fd_fitting_of := PySem.W.fnOf "fitting_of" "fitting_of" (defArgs s_fitting_of) (defBody s_fitting_of) (defScope s_fitting_of) .none kV_fitting_of dc_fitting_of pm_fitting_of an_fitting_of cd_fitting_of ct_fitting_of,
      F_fitting_of := fun_mk (st := s_fitting_of) hl_fitting_of hc_fitting_of hk_fitting_of,
      g_fitting_of := PySem.W.mg_of X G ha_fitting_of,
      b_fitting_of := (fun_mk (st := s_fitting_of) hl_fitting_of hc_fitting_of hk_fitting_of).binds (ps := ["clues"]) fun _ _ _ _ _ _ us hl => match us, hl with | [_], _ => rfl,
      f_fitting := f_fitting,
      fd_fitting := PySem.W.fnOf "fitting" "fitting" (defArgs s_fitting) (defBody s_fitting) (defScope s_fitting) .none kV_fitting dc_fitting pm_fitting an_fitting cd_fitting ct_fitting,
      F_fitting := fun_mk (st := s_fitting) hl_fitting hc_fitting hk_fitting,
      g_fitting := PySem.W.mg_of X G ha_fitting,
      b_fitting := (fun_mk (st := s_fitting) hl_fitting hc_fitting hk_fitting).binds (ps := ["clues"]) fun _ _ _ _ _ _ us hl => match us, hl with | [_], _ => rfl,
      f_l_clues_right := f_l_clues_right,
      fd_l_clues_right := PySem.W.fnOf "_law_clues_right" "_law_clues_right" (defArgs s_l_clues_right) (defBody s_l_clues_right) (defScope s_l_clues_right) .none kV_l_clues_right dc_l_clues_right pm_l_clues_right an_l_clues_right cd_l_clues_right ct_l_clues_right,
      F_l_clues_right := fun_mk (st := s_l_clues_right) hl_l_clues_right hc_l_clues_right hk_l_clues_right,
      g_l_clues_right := PySem.W.mg_of X G ha_l_clues_right,
      b_l_clues_right := (fun_mk (st := s_l_clues_right) hl_l_clues_right hc_l_clues_right hk_l_clues_right).binds (ps := ["_law_ask", "_law_one", "_law_other"]) fun _ _ _ _ _ _ us hl => match us, hl with | [_, _, _], _ => rfl,
      g_One := PySem.W.mg_of X G h_n_One,
      f_One_init := f_One_init,
      fd_One_init := PySem.W.fnOf "__init__" "One.__init__" (defArgs s_One_init) (defBody s_One_init) (defScope s_One_init) .none kV_One_init dc_One_init pm_One_init an_One_init cd_One_init ct_One_init,
      F_One_init := fun_mk (st := s_One_init) hl_One_init hc_One_init hk_One_init,
      b_One_init := (fun_mk (st := s_One_init) hl_One_init hc_One_init hk_One_init).binds (ps := ["self", "cells"]) fun _ _ _ _ _ _ us hl => match us, hl with | [_, _], _ => rfl,
      g_Two := PySem.W.mg_of X G h_n_Two,
      f_Two_init := f_Two_init,
      fd_Two_init := PySem.W.fnOf "__init__" "Two.__init__" (defArgs s_Two_init) (defBody s_Two_init) (defScope s_Two_init) .none kV_Two_init dc_Two_init pm_Two_init an_Two_init cd_Two_init ct_Two_init,
      F_Two_init := fun_mk (st := s_Two_init) hl_Two_init hc_Two_init hk_Two_init,
      b_Two_init := (fun_mk (st := s_Two_init) hl_Two_init hc_Two_init hk_Two_init).binds (ps := ["self", "one", "other"]) fun _ _ _ _ _ _ us hl => match us, hl with | [_, _, _], _ => rfl,
      f_told := f_told,
      fd_told := PySem.W.fnOf "told" "told" (defArgs s_told) (defBody s_told) (defScope s_told) .none kV_told dc_told pm_told an_told cd_told ct_told,
      F_told := fun_mk (st := s_told) hl_told hc_told hk_told,
      g_told := PySem.W.mg_of X G ha_told,
      b_told := (fun_mk (st := s_told) hl_told hc_told hk_told).binds (ps := ["clues"]) fun _ _ _ _ _ _ us hl => match us, hl with | [_], _ => rfl,
      f_l_fields := f_l_fields,
      fd_l_fields := PySem.W.fnOf "_law_fields" "_law_fields" (defArgs s_l_fields) (defBody s_l_fields) (defScope s_l_fields) .none kV_l_fields dc_l_fields pm_l_fields an_l_fields cd_l_fields ct_l_fields,
      F_l_fields := fun_mk (st := s_l_fields) hl_l_fields hc_l_fields hk_l_fields,
      g_l_fields := PySem.W.mg_of X G ha_l_fields,
      b_l_fields := (fun_mk (st := s_l_fields) hl_l_fields hc_l_fields hk_l_fields).binds (ps := ["_law_found"]) fun _ _ _ _ _ _ us hl => match us, hl with | [_], _ => rfl,
      f_One_shows := f_One_shows,
      fd_One_shows := PySem.W.fnOf "shows" "One.shows" (defArgs s_One_shows) (defBody s_One_shows) (defScope s_One_shows) .none kV_One_shows dc_One_shows pm_One_shows an_One_shows cd_One_shows ct_One_shows,
      F_One_shows := fun_mk (st := s_One_shows) hl_One_shows hc_One_shows hk_One_shows,
      b_One_shows := (fun_mk (st := s_One_shows) hl_One_shows hc_One_shows hk_One_shows).binds (ps := ["self", "clues"]) fun _ _ _ _ _ _ us hl => match us, hl with | [_, _], _ => rfl,
      f_Two_shows := f_Two_shows,
      fd_Two_shows := PySem.W.fnOf "shows" "Two.shows" (defArgs s_Two_shows) (defBody s_Two_shows) (defScope s_Two_shows) .none kV_Two_shows dc_Two_shows pm_Two_shows an_Two_shows cd_Two_shows ct_Two_shows,
      F_Two_shows := fun_mk (st := s_Two_shows) hl_Two_shows hc_Two_shows hk_Two_shows,
      b_Two_shows := (fun_mk (st := s_Two_shows) hl_Two_shows hc_Two_shows hk_Two_shows).binds (ps := ["self", "clues"]) fun _ _ _ _ _ _ us hl => match us, hl with | [_, _], _ => rfl,
      g_Never := PySem.W.mg_of X G h_n_Never,
      f_Never_shows := f_Never_shows,
      fd_Never_shows := PySem.W.fnOf "shows" "Never.shows" (defArgs s_Never_shows) (defBody s_Never_shows) (defScope s_Never_shows) .none kV_Never_shows dc_Never_shows pm_Never_shows an_Never_shows cd_Never_shows ct_Never_shows,
      F_Never_shows := fun_mk (st := s_Never_shows) hl_Never_shows hc_Never_shows hk_Never_shows,
      b_Never_shows := (fun_mk (st := s_Never_shows) hl_Never_shows hc_Never_shows hk_Never_shows).binds (ps := ["self", "clues"]) fun _ _ _ _ _ _ us hl => match us, hl with | [_, _], _ => rfl,
      f_l_tell_right := f_l_tell_right,
      fd_l_tell_right := PySem.W.fnOf "_law_tell_right" "_law_tell_right" (defArgs s_l_tell_right) (defBody s_l_tell_right) (defScope s_l_tell_right) .none kV_l_tell_right dc_l_tell_right pm_l_tell_right an_l_tell_right cd_l_tell_right ct_l_tell_right,
      F_l_tell_right := fun_mk (st := s_l_tell_right) hl_l_tell_right hc_l_tell_right hk_l_tell_right,
      g_l_tell_right := PySem.W.mg_of X G ha_l_tell_right,
      b_l_tell_right := (fun_mk (st := s_l_tell_right) hl_l_tell_right hc_l_tell_right hk_l_tell_right).binds (ps := ["_law_one", "_law_other"]) fun _ _ _ _ _ _ us hl => match us, hl with | [_, _], _ => rfl,
      f_check_few := f_check_few,
      fd_check_few := PySem.W.fnOf "check_few" "check_few" (defArgs s_check_few) (defBody s_check_few) (defScope s_check_few) .none kV_check_few dc_check_few pm_check_few an_check_few cd_check_few ct_check_few,
      F_check_few := fun_mk (st := s_check_few) hl_check_few hc_check_few hk_check_few,
      g_check_few := PySem.W.mg_of X G ha_check_few,
      b_check_few := (fun_mk (st := s_check_few) hl_check_few hc_check_few hk_check_few).binds (ps := ["grid"]) fun _ _ _ _ _ _ us hl => match us, hl with | [_], _ => rfl,
      f_rings := f_rings,
      fd_rings := PySem.W.fnOf "rings" "rings" (defArgs s_rings) (defBody s_rings) (defScope s_rings) .none kV_rings dc_rings pm_rings an_rings cd_rings ct_rings,
      F_rings := fun_mk (st := s_rings) hl_rings hc_rings hk_rings,
      g_rings := PySem.W.mg_of X G ha_rings,
      b_rings := (fun_mk (st := s_rings) hl_rings hc_rings hk_rings).binds (ps := ["grid"]) fun _ _ _ _ _ _ us hl => match us, hl with | [_], _ => rfl,
      f_law10 := fa,
      fd_law10 := PySem.W.fnOf "law" "law" (defArgs s_law10) (defBody s_law10) (defScope s_law10) .none kV_law10 dc_law10 pm_law10 an_law10 cd_law10 ct_law10,
      F_law10 := fun_mk (st := s_law10) hl_law10 hc_law10 hk_law10,
      cc_law10 := cc_law10,
      pp_law10 := pp_law10,
      hcd_law10 := hcd_law10,
      ne_l_cells_right_law10 := hne_l_cells_right_law10,
      g_law10 := PySem.W.mg_of X G ha_law10,
      b_law10 := (fun_mk (st := s_law10) hl_law10 hc_law10 hk_law10).binds (ps := ["_law_script"]) fun _ _ _ _ _ _ us hl => match us, hl with | [_], _ => rfl,
      n_isinstance := PySem.W.mg_none_of X G hz_isinstance,
      n_int := PySem.W.mg_none_of X G hz_int,
      n_bool := PySem.W.mg_none_of X G hz_bool,
      n_tuple := PySem.W.mg_none_of X G hz_tuple,
      n_len := PySem.W.mg_none_of X G hz_len,
      n_all := PySem.W.mg_none_of X G hz_all,
      k_MOST := k_MOST,
      g_MOST := PySem.W.mg_of X G hg_MOST,
      g_BadGrid := PySem.W.mg_of X G h_n_BadGrid,
      x_BadGrid := h_x_BadGrid,
      k_BadGrid := h_k_BadGrid,
      e_BadGrid := h_e_BadGrid,
      y_BadGrid := h_y_BadGrid,
      n_list := PySem.W.mg_none_of X G hz_list,
      g_BadCells := PySem.W.mg_of X G h_n_BadCells,
      x_BadCells := h_x_BadCells,
      k_BadCells := h_k_BadCells,
      e_BadCells := h_e_BadCells,
      y_BadCells := h_y_BadCells,
      n_any := PySem.W.mg_none_of X G hz_any,
      n_zip := PySem.W.mg_none_of X G hz_zip,
      n_range := PySem.W.mg_none_of X G hz_range,
      g_NoRing := PySem.W.mg_of X G h_n_NoRing,
      x_NoRing := h_x_NoRing,
      k_NoRing := h_k_NoRing,
      e_NoRing := h_e_NoRing,
      y_NoRing := h_y_NoRing,
      cl_Split := ⟨pg_Split, hd_Split, po_Split, sa_Split⟩,
      cf_Split := ⟨⟨pg_Split, hd_Split, po_Split, sa_Split⟩, fun f hf => by simp only [List.mem_cons, List.not_mem_nil, or_false] at hf; rcases hf with rfl | rfl <;> assumption⟩,
      cl_Hole := ⟨pg_Hole, hd_Hole, po_Hole, sa_Hole⟩,
      cf_Hole := ⟨⟨pg_Hole, hd_Hole, po_Hole, sa_Hole⟩, fun f hf => by simp only [List.mem_cons, List.not_mem_nil, or_false] at hf; rcases hf with rfl <;> assumption⟩,
      m_Split := ⟨mk_Split, ha_Split_init, if_Split_init, kc_Split⟩,
      m_Ring := ⟨mk_Ring, oi_Ring, kc_Ring⟩,
      m_Hole := ⟨mk_Hole, ha_Hole_init, if_Hole_init, kc_Hole⟩,
      cl_Ring := ⟨pg_Ring, hd_Ring, po_Ring, sa_Ring⟩,
      mt_Ring_shows := ⟨ha_Ring_shows, if_Ring_shows, hk_Ring_shows⟩,
      mt_Split_shows := ⟨ha_Split_shows, if_Split_shows, hk_Split_shows⟩,
      mt_Hole_shows := ⟨ha_Hole_shows, if_Hole_shows, hk_Hole_shows⟩,
      n_enumerate := PySem.W.mg_none_of X G hz_enumerate,
      ci_Ring := ⟨⟨pg_Ring, hd_Ring, po_Ring, sa_Ring⟩, ca_Ring, cb_Ring, cc_Ring, cd_Ring⟩,
      ki_Ring_Ring := kit_self,
      ci_Split := ⟨⟨pg_Split, hd_Split, po_Split, sa_Split⟩, ca_Split, cb_Split, cc_Split, cd_Split⟩,
      ki_Split_Ring := kit_not ic_Ring it_Ring h_ki_Split_Ring is_Ring,
      ki_Ring_Split := kit_not ic_Split it_Split h_ki_Ring_Split is_Split,
      ki_Split_Split := kit_self,
      g_BadClues := PySem.W.mg_of X G h_n_BadClues,
      x_BadClues := h_x_BadClues,
      k_BadClues := h_k_BadClues,
      e_BadClues := h_e_BadClues,
      y_BadClues := h_y_BadClues,
      k_FEW := k_FEW,
      g_FEW := PySem.W.mg_of X G hg_FEW,
      n_sorted := PySem.W.mg_none_of X G hz_sorted,
      cl_One := ⟨pg_One, hd_One, po_One, sa_One⟩,
      cf_One := ⟨⟨pg_One, hd_One, po_One, sa_One⟩, fun f hf => by simp only [List.mem_cons, List.not_mem_nil, or_false] at hf; rcases hf with rfl <;> assumption⟩,
      cl_Two := ⟨pg_Two, hd_Two, po_Two, sa_Two⟩,
      cf_Two := ⟨⟨pg_Two, hd_Two, po_Two, sa_Two⟩, fun f hf => by simp only [List.mem_cons, List.not_mem_nil, or_false] at hf; rcases hf with rfl | rfl <;> assumption⟩,
      m_Never := ⟨mk_Never, oi_Never, kc_Never⟩,
      m_One := ⟨mk_One, ha_One_init, if_One_init, kc_One⟩,
      m_Two := ⟨mk_Two, ha_Two_init, if_Two_init, kc_Two⟩,
      ci_One := ⟨⟨pg_One, hd_One, po_One, sa_One⟩, ca_One, cb_One, cc_One, cd_One⟩,
      ci_Two := ⟨⟨pg_Two, hd_Two, po_Two, sa_Two⟩, ca_Two, cb_Two, cc_Two, cd_Two⟩,
      cl_Never := ⟨pg_Never, hd_Never, po_Never, sa_Never⟩,
      ci_Never := ⟨⟨pg_Never, hd_Never, po_Never, sa_Never⟩, ca_Never, cb_Never, cc_Never, cd_Never⟩,
      ki_One_One := kit_self,
      ki_Two_One := kit_not ic_One it_One h_ki_Two_One is_One,
      ki_Never_One := kit_not ic_One it_One h_ki_Never_One is_One,
      ki_One_Two := kit_not ic_Two it_Two h_ki_One_Two is_Two,
      ki_Two_Two := kit_self,
      ki_Never_Two := kit_not ic_Two it_Two h_ki_Never_Two is_Two,
      mt_One_shows := ⟨ha_One_shows, if_One_shows, hk_One_shows⟩,
      mt_Two_shows := ⟨ha_Two_shows, if_Two_shows, hk_Two_shows⟩,
      mt_Never_shows := ⟨ha_Never_shows, if_Never_shows, hk_Never_shows⟩,
      n_abs := PySem.W.mg_none_of X G hz_abs,
      n_sum := PySem.W.mg_none_of X G hz_sum }
  exact ⟨T.fd_law10, csT T, sp_law10 K (tabsT T), (fun p hp => by
    simp only [csT, List.mem_cons, List.not_mem_nil, or_false] at hp
    rcases hp with rfl | rfl
    · exact (TB "_law_cells_right" List.mem_cons_self _ _ (tabIn_of ha_l_cells_right hl_l_cells_right hcd_l_cells_right hlc_l_cells_right h11_l_cells_right)).2
    · exact (TB "law" (List.mem_cons_of_mem _ List.mem_cons_self) _ _ (tabIn_of ha_law10 hl_law10 hcd_law10 hlc_law10 h11_law10)).2), (fun p hp => by
    simp only [csT, List.mem_cons, List.not_mem_nil, or_false] at hp
    rcases hp with rfl | rfl
    · exact hnl_l_cells_right
    · exact hnl_law10), (fun p hp => by
    simp only [csT, List.mem_cons, List.not_mem_nil, or_false] at hp
    rcases hp with rfl | rfl
    · exact (TB "_law_cells_right" List.mem_cons_self _ _ (tabIn_of ha_l_cells_right hl_l_cells_right hcd_l_cells_right hlc_l_cells_right h11_l_cells_right)).1
    · exact (TB "law" (List.mem_cons_of_mem _ List.mem_cons_self) _ _ (tabIn_of ha_law10 hl_law10 hcd_law10 hlc_law10 h11_law10)).1), fun s v => .of_eq rfl, fun H a ns hl hb hH hS => ⟨a, ns, rfl, hS, ⟨hl, hb⟩, (tabsN_start fun p hp => by
    simp only [tabsT, List.mem_cons, List.not_mem_nil, or_false] at hp
    rcases hp with rfl | rfl
    · exact hH _ (tc_l_cells_right T)
    · exact hH _ (tc_law10 T)), fun _ => rfl⟩, fun base _ _ tb => ok_law10 T tb⟩
end Sd
open PySem PySem.W PyProof.Rows
set_option maxHeartbeats 0 in
theorem PySem.Challenge.cw_sidering_k10_handed_stays_holds : PySem.Challenge.rw_sidering_k10_handed_stays.Holds := by
  w_on; o_law; k_head; (case hw => w_witness2)
  k_fill
  refine Sd.walk_ofTabs (l := PySem.Challenge.rw_sidering_k10_handed_stays) (n := 63) (k := 11) (x := "_law_script") (ys := ["_law_cells_right", "law"]) (CX := fun _ => L2.CX0) rfl (by decide) rfl ⟨rfl, by decide, by decide⟩ (by decide +kernel) (fun w h Y => PySem.W.km_in_of Y) ?F (fun _ _ _ _ _ h => h)
  case F =>
    intro w mg fa h Y KX G hmg TB
    refine' Sd.all_mk KX G hmg TB ?ha_is_whole ?hl_is_whole ?hc_is_whole ?hk_is_whole ?ha_check_grid ?hl_check_grid ?hc_check_grid ?hk_check_grid ?ha_check_cells ?hl_check_cells ?hc_check_cells ?hk_check_cells ?ha_beside ?hl_beside ?hc_beside ?hk_beside ?ha_sides_of ?hl_sides_of ?hc_sides_of ?hk_sides_of ?ha_numbers_of ?hl_numbers_of ?hc_numbers_of ?hk_numbers_of ?ha_numbers ?hl_numbers ?hc_numbers ?hk_numbers ?ha_spread ?hl_spread ?hc_spread ?hk_spread ?ha_is_inner ?hl_is_inner ?hc_is_inner ?hk_is_inner ?ha_first_inner ?hl_first_inner ?hc_first_inner ?hk_first_inner ?ha_is_ring ?hl_is_ring ?hc_is_ring ?hk_is_ring ?ha_side_ahead ?hl_side_ahead ?hc_side_ahead ?hk_side_ahead ?ha_walk ?hl_walk ?hc_walk ?hk_walk ?h_n_Split ?ha_Split_init ?hl_Split_init ?hc_Split_init ?hk_Split_init ?h_n_Hole ?ha_Hole_init ?hl_Hole_init ?hc_Hole_init ?hk_Hole_init ?ha_judged ?hl_judged ?hc_judged ?hk_judged ?h_n_Ring ?ha_Ring_shows ?hl_Ring_shows ?hc_Ring_shows ?hk_Ring_shows ?ha_Split_shows ?hl_Split_shows ?hc_Split_shows ?hk_Split_shows ?ha_Hole_shows ?hl_Hole_shows ?hc_Hole_shows ?hk_Hole_shows ?ha_l_door_right ?hl_l_door_right ?hc_l_door_right ?hk_l_door_right ?ha_l_cells_right ?hl_l_cells_right ?hc_l_cells_right ?hk_l_cells_right ?hcd_l_cells_right ?hlc_l_cells_right ?h11_l_cells_right ?hnl_l_cells_right ?ha_l_apart_right ?hl_l_apart_right ?hc_l_apart_right ?hk_l_apart_right ?ha_l_copied ?hl_l_copied ?hc_l_copied ?hk_l_copied ?ha_check_clues ?hl_check_clues ?hc_check_clues ?hk_check_clues ?ha_all_rings ?hl_all_rings ?hc_all_rings ?hk_all_rings ?ha_fits ?hl_fits ?hc_fits ?hk_fits ?ha_fitting_of ?hl_fitting_of ?hc_fitting_of ?hk_fitting_of ?ha_fitting ?hl_fitting ?hc_fitting ?hk_fitting ?ha_l_clues_right ?hl_l_clues_right ?hc_l_clues_right ?hk_l_clues_right ?h_n_One ?ha_One_init ?hl_One_init ?hc_One_init ?hk_One_init ?h_n_Two ?ha_Two_init ?hl_Two_init ?hc_Two_init ?hk_Two_init ?ha_told ?hl_told ?hc_told ?hk_told ?ha_l_fields ?hl_l_fields ?hc_l_fields ?hk_l_fields ?ha_One_shows ?hl_One_shows ?hc_One_shows ?hk_One_shows ?ha_Two_shows ?hl_Two_shows ?hc_Two_shows ?hk_Two_shows ?h_n_Never ?ha_Never_shows ?hl_Never_shows ?hc_Never_shows ?hk_Never_shows ?ha_l_tell_right ?hl_l_tell_right ?hc_l_tell_right ?hk_l_tell_right ?ha_check_few ?hl_check_few ?hc_check_few ?hk_check_few ?ha_rings ?hl_rings ?hc_rings ?hk_rings ?ha_law10 ?hl_law10 ?hc_law10 ?hk_law10 ?hcd_law10 ?hlc_law10 ?h11_law10 ?hnl_law10 ?hne_l_cells_right_law10 ?hz_isinstance ?hz_int ?hz_bool ?hz_tuple ?hz_len ?hz_all ?hg_MOST ?h_n_BadGrid ?h_x_BadGrid ?h_k_BadGrid ?h_e_BadGrid ?h_y_BadGrid ?hz_list ?h_n_BadCells ?h_x_BadCells ?h_k_BadCells ?h_e_BadCells ?h_y_BadCells ?hz_any ?hz_zip ?hz_range ?h_n_NoRing ?h_x_NoRing ?h_k_NoRing ?h_e_NoRing ?h_y_NoRing ?pg_Split ?hd_Split ?po_Split ?sa_Split ?na_Split_one ?na_Split_other ?pg_Hole ?hd_Hole ?po_Hole ?sa_Hole ?na_Hole_cell ?mk_Split ?kc_Split ?if_Split_init ?mk_Ring ?kc_Ring ?oi_Ring ?mk_Hole ?kc_Hole ?if_Hole_init ?pg_Ring ?hd_Ring ?po_Ring ?sa_Ring ?if_Ring_shows ?if_Split_shows ?if_Hole_shows ?hz_enumerate ?ca_Ring ?cb_Ring ?cc_Ring ?cd_Ring ?ca_Split ?cb_Split ?cc_Split ?cd_Split ?ic_Ring ?it_Ring ?is_Ring ?h_ki_Split_Ring ?ic_Split ?it_Split ?is_Split ?h_ki_Ring_Split ?h_n_BadClues ?h_x_BadClues ?h_k_BadClues ?h_e_BadClues ?h_y_BadClues ?hg_FEW ?hz_sorted ?pg_One ?hd_One ?po_One ?sa_One ?na_One_cells ?pg_Two ?hd_Two ?po_Two ?sa_Two ?na_Two_one ?na_Two_other ?mk_Never ?kc_Never ?oi_Never ?mk_One ?kc_One ?if_One_init ?mk_Two ?kc_Two ?if_Two_init ?ca_One ?cb_One ?cc_One ?cd_One ?ca_Two ?cb_Two ?cc_Two ?cd_Two ?pg_Never ?hd_Never ?po_Never ?sa_Never ?ca_Never ?cb_Never ?cc_Never ?cd_Never ?ic_One ?it_One ?is_One ?h_ki_Two_One ?h_ki_Never_One ?ic_Two ?it_Two ?is_Two ?h_ki_One_Two ?h_ki_Never_Two ?if_One_shows ?if_Two_shows ?if_Never_shows ?hz_abs ?hz_sum
    (case ha_is_whole => k_is)
    (case hl_is_whole => k_is)
    (case hc_is_whole => k_is)
    (case hk_is_whole => k_is)
    (case ha_check_grid => k_is)
    (case hl_check_grid => k_is)
    (case hc_check_grid => k_is)
    (case hk_check_grid => k_is)
    (case ha_check_cells => k_is)
    (case hl_check_cells => k_is)
    (case hc_check_cells => k_is)
    (case hk_check_cells => k_is)
    (case ha_beside => k_is)
    (case hl_beside => k_is)
    (case hc_beside => k_is)
    (case hk_beside => k_is)
    (case ha_sides_of => k_is)
    (case hl_sides_of => k_is)
    (case hc_sides_of => k_is)
    (case hk_sides_of => k_is)
    (case ha_numbers_of => k_is)
    (case hl_numbers_of => k_is)
    (case hc_numbers_of => k_is)
    (case hk_numbers_of => k_is)
    (case ha_numbers => k_is)
    (case hl_numbers => k_is)
    (case hc_numbers => k_is)
    (case hk_numbers => k_is)
    (case ha_spread => k_is)
    (case hl_spread => k_is)
    (case hc_spread => k_is)
    (case hk_spread => k_is)
    (case ha_is_inner => k_is)
    (case hl_is_inner => k_is)
    (case hc_is_inner => k_is)
    (case hk_is_inner => k_is)
    (case ha_first_inner => k_is)
    (case hl_first_inner => k_is)
    (case hc_first_inner => k_is)
    (case hk_first_inner => k_is)
    (case ha_is_ring => k_is)
    (case hl_is_ring => k_is)
    (case hc_is_ring => k_is)
    (case hk_is_ring => k_is)
    (case ha_side_ahead => k_is)
    (case hl_side_ahead => k_is)
    (case hc_side_ahead => k_is)
    (case hk_side_ahead => k_is)
    (case ha_walk => k_is)
    (case hl_walk => k_is)
    (case hc_walk => k_is)
    (case hk_walk => k_is)
    (case h_n_Split => k_is)
    (case ha_Split_init => k_is)
    (case hl_Split_init => k_is)
    (case hc_Split_init => k_is)
    (case hk_Split_init => k_is)
    (case h_n_Hole => k_is)
    (case ha_Hole_init => k_is)
    (case hl_Hole_init => k_is)
    (case hc_Hole_init => k_is)
    (case hk_Hole_init => k_is)
    (case ha_judged => k_is)
    (case hl_judged => k_is)
    (case hc_judged => k_is)
    (case hk_judged => k_is)
    (case h_n_Ring => k_is)
    (case ha_Ring_shows => k_is)
    (case hl_Ring_shows => k_is)
    (case hc_Ring_shows => k_is)
    (case hk_Ring_shows => k_is)
    (case ha_Split_shows => k_is)
    (case hl_Split_shows => k_is)
    (case hc_Split_shows => k_is)
    (case hk_Split_shows => k_is)
    (case ha_Hole_shows => k_is)
    (case hl_Hole_shows => k_is)
    (case hc_Hole_shows => k_is)
    (case hk_Hole_shows => k_is)
    (case ha_l_door_right => k_is)
    (case hl_l_door_right => k_is)
    (case hc_l_door_right => k_is)
    (case hk_l_door_right => k_is)
    (case ha_l_cells_right => k_is)
    (case hl_l_cells_right => k_is)
    (case hc_l_cells_right => k_is)
    (case hk_l_cells_right => k_is)
    (case hcd_l_cells_right => rfl)
    (case hlc_l_cells_right => k_is)
    (case h11_l_cells_right => rfl)
    (case hnl_l_cells_right => kernel_rfl)
    (case ha_l_apart_right => k_is)
    (case hl_l_apart_right => k_is)
    (case hc_l_apart_right => k_is)
    (case hk_l_apart_right => k_is)
    (case ha_l_copied => k_is)
    (case hl_l_copied => k_is)
    (case hc_l_copied => k_is)
    (case hk_l_copied => k_is)
    (case ha_check_clues => k_is)
    (case hl_check_clues => k_is)
    (case hc_check_clues => k_is)
    (case hk_check_clues => k_is)
    (case ha_all_rings => k_is)
    (case hl_all_rings => k_is)
    (case hc_all_rings => k_is)
    (case hk_all_rings => k_is)
    (case ha_fits => k_is)
    (case hl_fits => k_is)
    (case hc_fits => k_is)
    (case hk_fits => k_is)
    (case ha_fitting_of => k_is)
    (case hl_fitting_of => k_is)
    (case hc_fitting_of => k_is)
    (case hk_fitting_of => k_is)
    (case ha_fitting => k_is)
    (case hl_fitting => k_is)
    (case hc_fitting => k_is)
    (case hk_fitting => k_is)
    (case ha_l_clues_right => k_is)
    (case hl_l_clues_right => k_is)
    (case hc_l_clues_right => k_is)
    (case hk_l_clues_right => k_is)
    (case h_n_One => k_is)
    (case ha_One_init => k_is)
    (case hl_One_init => k_is)
    (case hc_One_init => k_is)
    (case hk_One_init => k_is)
    (case h_n_Two => k_is)
    (case ha_Two_init => k_is)
    (case hl_Two_init => k_is)
    (case hc_Two_init => k_is)
    (case hk_Two_init => k_is)
    (case ha_told => k_is)
    (case hl_told => k_is)
    (case hc_told => k_is)
    (case hk_told => k_is)
    (case ha_l_fields => k_is)
    (case hl_l_fields => k_is)
    (case hc_l_fields => k_is)
    (case hk_l_fields => k_is)
    (case ha_One_shows => k_is)
    (case hl_One_shows => k_is)
    (case hc_One_shows => k_is)
    (case hk_One_shows => k_is)
    (case ha_Two_shows => k_is)
    (case hl_Two_shows => k_is)
    (case hc_Two_shows => k_is)
    (case hk_Two_shows => k_is)
    (case h_n_Never => k_is)
    (case ha_Never_shows => k_is)
    (case hl_Never_shows => k_is)
    (case hc_Never_shows => k_is)
    (case hk_Never_shows => k_is)
    (case ha_l_tell_right => k_is)
    (case hl_l_tell_right => k_is)
    (case hc_l_tell_right => k_is)
    (case hk_l_tell_right => k_is)
    (case ha_check_few => k_is)
    (case hl_check_few => k_is)
    (case hc_check_few => k_is)
    (case hk_check_few => k_is)
    (case ha_rings => k_is)
    (case hl_rings => k_is)
    (case hc_rings => k_is)
    (case hk_rings => k_is)
    (case ha_law10 => k_is)
    (case hl_law10 => k_is)
    (case hc_law10 => k_is)
    (case hk_law10 => k_is)
    (case hcd_law10 => rfl)
    (case hlc_law10 => k_is)
    (case h11_law10 => rfl)
    (case hnl_law10 => kernel_rfl)
    (case hne_l_cells_right_law10 => decide)
    (case hz_isinstance => k_is)
    (case hz_int => k_is)
    (case hz_bool => k_is)
    (case hz_tuple => k_is)
    (case hz_len => k_is)
    (case hz_all => k_is)
    (case hg_MOST => k_is)
    (case h_n_BadGrid => k_is)
    (case h_x_BadGrid => k_exc)
    (case h_k_BadGrid => k_is)
    (case h_e_BadGrid => k_is)
    (case h_y_BadGrid => k_is)
    (case hz_list => k_is)
    (case h_n_BadCells => k_is)
    (case h_x_BadCells => k_exc)
    (case h_k_BadCells => k_is)
    (case h_e_BadCells => k_is)
    (case h_y_BadCells => k_is)
    (case hz_any => k_is)
    (case hz_zip => k_is)
    (case hz_range => k_is)
    (case h_n_NoRing => k_is)
    (case h_x_NoRing => k_exc)
    (case h_k_NoRing => k_is)
    (case h_e_NoRing => k_is)
    (case h_y_NoRing => k_is)
    (case pg_Split => k_is)
    (case hd_Split => k_is)
    (case po_Split => k_is)
    (case sa_Split => k_is)
    (case na_Split_one => k_is)
    (case na_Split_other => k_is)
    (case pg_Hole => k_is)
    (case hd_Hole => k_is)
    (case po_Hole => k_is)
    (case sa_Hole => k_is)
    (case na_Hole_cell => k_is)
    (case mk_Split => k_is)
    (case kc_Split => k_is)
    (case if_Split_init => k_is)
    (case mk_Ring => k_is)
    (case kc_Ring => k_is)
    (case oi_Ring => k_is)
    (case mk_Hole => k_is)
    (case kc_Hole => k_is)
    (case if_Hole_init => k_is)
    (case pg_Ring => k_is)
    (case hd_Ring => k_is)
    (case po_Ring => k_is)
    (case sa_Ring => k_is)
    (case if_Ring_shows => k_is)
    (case if_Split_shows => k_is)
    (case if_Hole_shows => k_is)
    (case hz_enumerate => k_is)
    (case ca_Ring => k_is)
    (case cb_Ring => k_is)
    (case cc_Ring => k_is)
    (case cd_Ring => k_is)
    (case ca_Split => k_is)
    (case cb_Split => k_is)
    (case cc_Split => k_is)
    (case cd_Split => k_is)
    (case ic_Ring => k_is)
    (case it_Ring => k_is)
    (case is_Ring => k_is)
    (case h_ki_Split_Ring => k_is)
    (case ic_Split => k_is)
    (case it_Split => k_is)
    (case is_Split => k_is)
    (case h_ki_Ring_Split => k_is)
    (case h_n_BadClues => k_is)
    (case h_x_BadClues => k_exc)
    (case h_k_BadClues => k_is)
    (case h_e_BadClues => k_is)
    (case h_y_BadClues => k_is)
    (case hg_FEW => k_is)
    (case hz_sorted => k_is)
    (case pg_One => k_is)
    (case hd_One => k_is)
    (case po_One => k_is)
    (case sa_One => k_is)
    (case na_One_cells => k_is)
    (case pg_Two => k_is)
    (case hd_Two => k_is)
    (case po_Two => k_is)
    (case sa_Two => k_is)
    (case na_Two_one => k_is)
    (case na_Two_other => k_is)
    (case mk_Never => k_is)
    (case kc_Never => k_is)
    (case oi_Never => k_is)
    (case mk_One => k_is)
    (case kc_One => k_is)
    (case if_One_init => k_is)
    (case mk_Two => k_is)
    (case kc_Two => k_is)
    (case if_Two_init => k_is)
    (case ca_One => k_is)
    (case cb_One => k_is)
    (case cc_One => k_is)
    (case cd_One => k_is)
    (case ca_Two => k_is)
    (case cb_Two => k_is)
    (case cc_Two => k_is)
    (case cd_Two => k_is)
    (case pg_Never => k_is)
    (case hd_Never => k_is)
    (case po_Never => k_is)
    (case sa_Never => k_is)
    (case ca_Never => k_is)
    (case cb_Never => k_is)
    (case cc_Never => k_is)
    (case cd_Never => k_is)
    (case ic_One => k_is)
    (case it_One => k_is)
    (case is_One => k_is)
    (case h_ki_Two_One => k_is)
    (case h_ki_Never_One => k_is)
    (case ic_Two => k_is)
    (case it_Two => k_is)
    (case is_Two => k_is)
    (case h_ki_One_Two => k_is)
    (case h_ki_Never_Two => k_is)
    (case if_One_shows => k_is)
    (case if_Two_shows => k_is)
    (case if_Never_shows => k_is)
    (case hz_abs => k_is)
    (case hz_sum => k_is)
