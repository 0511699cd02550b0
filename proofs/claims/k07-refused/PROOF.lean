import PyProof.Rows.All
import Wide.All
import OpenK.AllK
import Wide.FinOn
import HandS.ForMost
import HandS.ForExc
import HandS.Evl
import HandS.Steps
import HandS.IsInst
import HandS.Deep
import HandS.Style
import HandS.WideBits
import HandS.EndBits
import HandS.SortInts
import HandS.Zip
import KE.SortData
import HandS.ExcIs
import HandS.ExcCtx
import HandS.HotCalls
import PySem.Challenge.RW_sidering_k07_refused
set_option Elab.async false
set_option linter.all false
set_option maxRecDepth 100000
set_option maxHeartbeats 4000000

/-! Rules of our own over the hand layer: C() of a class without an own __init__, one of several readings. -/
namespace Sd
open PySem L2 Evl
def tAlt (t u : TE) : TE := fun σ H Q => t σ H Q ∨ u σ H Q
/-- C(), no __init__ but object's -/
def tBare (C : Addr) : TE := fun σ H Q => ∀ x dx, H x = none → H dx = none → dx ≠ x → Q (.ref x) (upd (upd H dx (.own x)) x (.ins C dx []))
structure Mk0 (K : PySem.W.Frag) (C : Addr) : Prop where
  makes : PySem.W.makesIn K C = true
  init : PySem.W.findIn K (.ref C) "__init__" = some (some (.builtin "object.__init__"))
  kp : PySem.W.keepIn K (.ref C) = true
section
variable {X : Cx} {C : Addr} {x : Str} {p pos : Pos} {e : Expr} {t u : TE}
theorem pe_alt (h1 : PE X e t) (h2 : PE X e u) : PE X e (tAlt t u) := ⟨fun pins s σ H Q I h => h.elim (h1.run pins s σ H Q I) (h2.run pins s σ H Q I)⟩
theorem run_bare {pins : List (Addr × Obj)} {σ : St} {H : Hp} {s : Shared} {Q : VK} (M : Mk0 X.K C) (I : Inv X pins σ H s)
    (h : ∀ x dx, H x = none → H dx = none → dx ≠ x → Q (.ref x) (upd (upd H dx (.own x)) x (.ins C dx []))) : wpAny (model X.prog X.w) X.A (call (.ref C) []) (EP X pins σ Q) X.xe s := by
  have hq := h (s.heap.objs.size + 1) s.heap.objs.size (I.hok.fresh (Nat.le_succ _)) (I.hok.fresh (Nat.le_refl _)) (Nat.ne_of_lt (Nat.lt_succ_self _))
  have I2 := Inv.made (C := C) I
  have Y := PySem.W.makes_of (M := model X.prog X.w) I.kIn M.makes
  refine wpAny_call (make_map0 I.kIn M.makes M.init (fun self => PySem.W.Looks.of_pure (PySem.W.oi_bind self)) ?_)
  have hx : ((s.heap.push PySem.W.emptyDict).push (PySem.W.instObj C s.heap.objs.size)).get? (s.heap.objs.size + 1) = some (PySem.W.instObj C s.heap.objs.size) := by
    have := Heap.get?_push_size (s.heap.push PySem.W.emptyDict) (o := PySem.W.instObj C s.heap.objs.size) rfl
    rwa [Heap.size_push] at this
  have t1 : PySem.W.Looks (model X.prog X.w) ((s.heap.push PySem.W.emptyDict).push (PySem.W.instObj C s.heap.objs.size)) (typeOf (.ref (s.heap.objs.size + 1))) (.ref C) := (PySem.W.Looks.ld hx).andThen .now
  have t2 : PySem.W.Looks (model X.prog X.w) ((s.heap.push PySem.W.emptyDict).push (PySem.W.instObj C s.heap.objs.size)) (isInstance (.ref (s.heap.objs.size + 1)) (.type "object")) true := t1.andThen (Y.top.keeps fun b o e => Heap.get?_push_of_some _ (Heap.get?_push_of_some _ e))
  refine codeAny_call_builtin PySem.W.oi_plain PySem.W.entry_oi (@PySem.W.check_slot (model X.prog X.w) _ _ _ "object.__init__" "object" "__init__" (.ref (s.heap.objs.size + 1)) [] [] _ PySem.W.oi_kind PySem.W.oi_split t2 (PySem.W.oi_args (.ref (s.heap.objs.size + 1))) ?_)
  rw [PySem.W.oi_run]
  exact wpAny_pure (And.intro rfl ⟨V.ref (s.heap.objs.size + 1), _, I2, rfl, hq⟩)
theorem pe_bare (M : Mk0 X.K C) (hg : Gl X x) (hm : X.mg x = some (.ref C)) (hdb : (x == ("__debug__" : Str)) = false := by decide) : PE X (.Call (.Name x p) [] [] pos) (tBare C) := by
  refine ⟨fun pins s σ H Q I h => ?_⟩
  refine wpAny_Call_Name_kw (ld_glob I hg hm ?_ hdb)
  exact PySem.W.callWith_K0 I.kIn M.kp (run_bare M I h)
end
/-! ### sorted of data -/
/-- sorted(xs), each item some data: the same items, merge sorted by their data -/
def rSortV {γ : Type} (enc : γ → PyData) (K : PySem.W.Frag) : List V → Hp → VK → Prop := fun vs H Q => ∃ a, ∃ bs : List (V × γ), vs = [.ref a] ∧ SqL K H a (bs.map (·.1)) ∧ (∀ b ∈ bs, Dp K H b.1 (enc b.2)) ∧
  PySem.W.AllAlike (bs.map fun b => enc b.2) ∧ PySem.W.Sortable (bs.map fun b => enc b.2) ∧ (∀ b ∈ bs, (enc b.2).depth ≤ 40) ∧ ∀ p, H p = none → Q (.ref p) (upd H p (.lst ((bs.mergeSort (PySem.W.dataLe false fun b => enc b.2)).map (·.1))))
theorem each_of {γ : Type} {enc : γ → PyData} {X : Cx} {pins : List (Addr × Obj)} {σ : St} {H : Hp} {s : Shared} (I : Inv X pins σ H s) : ∀ {bs : List (V × γ)} {its : List Value}, Vals (bs.map (·.1)) its → (∀ b ∈ bs, Dp X.K H b.1 (enc b.2)) →
    PySem.W.EachIs (fun u b => RelV b.1 u) its bs ∧ PySem.W.EachIs (fun u b => ∃ as, Reads s.heap u (enc b.2) as) its bs
  | [], _, .nil, _ => ⟨.nil, .nil⟩
  | b :: bs, u :: us, .cons h hs, hd => by
    have ih := each_of I hs fun c hc => hd c (List.mem_cons_of_mem _ hc)
    exact ⟨.cons h ih.1, .cons (Dp.reads I _ _ _ (hd b List.mem_cons_self) h) ih.2⟩
theorem vals_of_each {γ : Type} : ∀ {bs : List (V × γ)} {its : List Value}, PySem.W.EachIs (fun u b => RelV b.1 u) its bs → Vals (bs.map (·.1)) its
  | [], _, .nil => .nil
  | _ :: _, _, .cons h t => .cons h (vals_of_each t)
theorem cr_sortV {γ : Type} {enc : γ → PyData} {X : Cx} (hu : X.A.units + 64 < cLine) : CallR X (.builtin "sorted") (rSortV enc X.K) := by
  intro pins s σ H vs us Q I r h
  obtain ⟨a, bs, rfl, hs, hd, hal, hk, hdep, q⟩ := h
  obtain ⟨its, rv, hl, hz⟩ := I.list hs
  rw [Vals.ref1 r]
  obtain ⟨e, er⟩ := each_of I rv hd
  have hlen : bs.length ≤ sizeLine := by rw [List.length_map] at hz; exact hz
  refine PySem.W.sorted_data hl.isList e er hal hk hlen (fun b hb => by have := hdep b hb; omega) fun out ho eo => ?_
  obtain ⟨ep, he'⟩ := PyProof.Rows.sortedAll_at s.heap its out.toArray
  have rv' := vals_of_each eo
  have hl2 : ((bs.mergeSort (PySem.W.dataLe false fun b => enc b.2)).map (·.1)).length ≤ sizeLine := by
    rw [List.length_map, List.length_mergeSort]
    exact hlen
  exact ⟨.ref _, upd H (s.heap.objs.size + 1) (.lst ((bs.mergeSort (PySem.W.dataLe false fun b => enc b.2)).map (·.1))), I.laid (t' := s.toks) (fun _ _ => PyProof.Rows.sortedAll_old) (Nat.le_succ _) ⟨hl2, out, ep, rv', he'⟩, rfl, q _ (I.hok.fresh (Nat.le_succ _))⟩
/-! ### isinstance of an own class -/
theorem kit_sub {K : PySem.W.Frag} {x y : Addr} (hc : PySem.W.isClsIn K y = true) (ht : PySem.W.typeIn K (.ref y) = some (.type "type")) (hs : PySem.W.subIn K (.ref x) (.ref y) = some true) : PySem.W.kitOne K (.ref x) (.ref y) = some true := by
  unfold PySem.W.kitOne
  split
  · rfl
  · unfold PySem.W.kitCls
    dsimp only
    have : ((PySem.W.clsIn K y).isSome && PySem.W.typeIn K (.ref y) == some (.type "type")) = true := by
      rw [ht]
      simp only [beq_self_eq_true, Bool.and_true]
      exact hc
    rw [if_pos this]
    exact hs
theorem kit_not {K : PySem.W.Frag} {x y : Addr} (hc : PySem.W.isClsIn K y = true) (ht : PySem.W.typeIn K (.ref y) = some (.type "type")) (hs : PySem.W.subIn K (.ref x) (.ref y) = some false) (hy : PySem.W.subIn K (.ref y) (.ref y) = some true) : PySem.W.kitOne K (.ref x) (.ref y) = some false := by
  have ne : ¬ ((Value.ref x == Value.ref y) = true) := fun e => by
    have : Value.ref x = Value.ref y := beq_iff_eq.mp e
    rw [this, hy] at hs
    cases hs
  unfold PySem.W.kitOne
  rw [if_neg ne]
  unfold PySem.W.kitCls
  dsimp only
  have : ((PySem.W.clsIn K y).isSome && PySem.W.typeIn K (.ref y) == some (.type "type")) = true := by
    rw [ht]
    simp only [beq_self_eq_true, Bool.and_true]
    exact hc
  rw [if_pos this]
  exact hs
theorem kit_self {K : PySem.W.Frag} {x : Addr} : PySem.W.kitOne K (.ref x) (.ref x) = some true := by
  unfold PySem.W.kitOne
  rw [if_pos (beq_iff_eq.mpr rfl)]
end Sd

/-! The words used for all laws: operations by name, what evaluates to what (over Evl), data, comprehensions. -/
namespace Sd
open PySem L2 Evl

abbrev oAdd : R2 := rI0 fun i j => .int (i + j)
abbrev oSub : R2 := rI0 fun i j => .int (i - j)
abbrev oMul : R2 := rI CMul fun i j => .int (i * j)
abbrev oMulX : R2 := rI CMulX fun i j => .int (i * j)
abbrev oDiv : R2 := rI CDiv fun i j => .int (i / j)
abbrev oMod : R2 := rI (fun _ j => 0 < j) fun i j => .int (i % j)
abbrev oPow : R2 := rI CPow fun i j => .int (i ^ j.toNat)
abbrev oShl : R2 := rI CPow fun i j => .int (i * 2 ^ j.toNat)
abbrev oShr : R2 := rI (fun _ j => 0 ≤ j) fun i j => .int (i / 2 ^ j.toNat)
abbrev oAnd : R2 := rI0 fun i j => .int (Builtin.bitAnd i j)
abbrev oLt : R2 := rI0 fun i j => .bl (decide (i < j))
abbrev oLe : R2 := rI0 fun i j => .bl (decide (i ≤ j))
abbrev oGt : R2 := rI0 fun i j => .bl (decide (j < i))
abbrev oGe : R2 := rI0 fun i j => .bl (decide (j ≤ i))
abbrev oNeg : V → Hp → VK → Prop := rU fun i => .int (-i)
abbrev rAbs : List V → Hp → VK → Prop := fun xs H Q => ∃ i, xs = [.int i] ∧ Q (.int (if i < 0 then -i else i)) H
theorem hu65 {A : Around} {k : Nat} (hr : Room k A) : A.units + 65 < cLine := by
  have := hr.un
  omega

theorem start_eq {N : List Str} {vs : List V} {n : Nat} (h : N.length = n) : L2.start N vs = vs.map some ++ List.replicate (n - vs.length) none := by
  subst h
  rfl
/-! ### sources: a list, a tuple, data -/
def EvS (K : PySem.W.Frag) (te : TE) (σ : L2.St) (H : Hp) (xs : List V) : Prop := ∀ H1, Ex H H1 → ∀ Q : VK, (∀ p H2, Ex H1 H2 → SqL K H2 p xs → Q (.ref p) H2) → te σ H1 Q
def EvST (K : PySem.W.Frag) (te : TE) (σ : L2.St) (H : Hp) (xs : List V) : Prop := ∀ H1, Ex H H1 → ∀ Q : VK, (∀ p H2, Ex H1 H2 → SqT K H2 p xs → Q (.ref p) H2) → te σ H1 Q
def EvD (K : PySem.W.Frag) (te : TE) (σ : L2.St) (H : Hp) (d : PyData) : Prop := ∀ H1, Ex H H1 → ∀ Q : VK, (∀ v H2, Ex H1 H2 → Dp K H2 v d → Q v H2) → te σ H1 Q
/-- any result: R of the heap ahead, the value, the heap behind -/
def EvP (te : TE) (σ : L2.St) (H : Hp) (R : Hp → V → Hp → Prop) : Prop := ∀ H1, Ex H H1 → ∀ Q : VK, (∀ v H2, Ex H1 H2 → R H1 v H2 → Q v H2) → te σ H1 Q

mutual
theorem Dp.mono {K : PySem.W.Frag} {H H' : Hp} (e : Ex H H') : ∀ {v : V} {d : PyData}, Dp K H v d → Dp K H' v d
  | _, _, .non => .non
  | _, _, .bl b => .bl b
  | _, _, .int i => .int i
  | _, _, .str x => .str x
  | _, _, .lst h hs => .lst (ex_l e h) (DpAll.mono e hs)
  | _, _, .tup h hs => .tup (ex_t e h) (DpAll.mono e hs)
theorem DpAll.mono {K : PySem.W.Frag} {H H' : Hp} (e : Ex H H') : ∀ {vs : List V} {ds : List PyData}, DpAll K H vs ds → DpAll K H' vs ds
  | _, _, .nil => .nil
  | _, _, .cons h hs => .cons (Dp.mono e h) (DpAll.mono e hs)
end
def dI (ns : List Int) : PyData := .list (ns.map PyData.int)
theorem dpAll_ints {K : PySem.W.Frag} {H : Hp} : ∀ ns : List Int, DpAll K H (ns.map V.int) (ns.map PyData.int)
  | [] => .nil
  | n :: r => .cons (.int n) (dpAll_ints r)
theorem dp_ints {K : PySem.W.Frag} {H : Hp} {a : Addr} {ns : List Int} (h : SqL K H a (ns.map V.int)) : Dp K H (.ref a) (dI ns) := .lst h (dpAll_ints ns)

section
variable {K : PySem.W.Frag} {σ : L2.St} {H H' : Hp} {ta tb tc te tl : TE} {t u : TT} {x y z v : V} {r r' : R2} {xs ys : List V} {d d' : PyData} {a : Addr}
theorem EvS.mono (e : Ex H H') (h : EvS K te σ H xs) : EvS K te σ H' xs := fun H1 e1 Q q => h H1 (e.trans e1) Q q
theorem EvD.mono (e : Ex H H') (h : EvD K te σ H d) : EvD K te σ H' d := fun H1 e1 Q q => h H1 (e.trans e1) Q q
theorem EvP.mono {R : Hp → V → Hp → Prop} (e : Ex H H') (h : EvP te σ H R) : EvP te σ H' R := fun H1 e1 Q q => h H1 (e.trans e1) Q q
theorem es_of (h : Ev te σ H (.ref a)) (hs : SqL K H a xs) : EvS K te σ H xs := fun H1 e Q q => h H1 e Q fun H2 e2 => q a H2 e2 (ex_l (e.trans e2) hs)
theorem es_new (h : EvL te σ H xs) : EvS K te σ H xs := fun H1 e Q q => h H1 e Q fun p H2 _ e2 hp => q p H2 e2 (sq_of hp)
theorem est_of (h : Ev te σ H (.ref a)) (hs : SqT K H a xs) : EvST K te σ H xs := fun H1 e Q q => h H1 e Q fun H2 e2 => q a H2 e2 (ex_t (e.trans e2) hs)
theorem est_new (h : EvU te σ H xs) : EvST K te σ H xs := fun H1 e Q q => h H1 e Q fun p H2 _ e2 hp => q p H2 e2 (st_of hp)
theorem ed_of (h : Ev te σ H v) (hd : Dp K H v d) : EvD K te σ H d := fun H1 e Q q => h H1 e Q fun H2 e2 => q v H2 e2 (Dp.mono (e.trans e2) hd)
theorem ed_ints {ns : List Int} (h : EvS K te σ H (ns.map V.int)) : EvD K te σ H (dI ns) := fun H1 e Q q => h H1 e Q fun p H2 e2 hp => q _ H2 e2 (dp_ints hp)
theorem ed_p {R : Hp → V → Hp → Prop} (h : EvP te σ H R) (hd : ∀ H1 v H2, R H1 v H2 → Dp K H2 v d) : EvD K te σ H d := fun H1 e Q q => h H1 e Q fun v H2 e2 hr => q v H2 e2 (hd _ _ _ hr)
theorem ep_v (h : Ev te σ H v) : EvP te σ H (fun _ w _ => w = v) := fun H1 e Q q => h H1 e Q fun H2 e2 => q v H2 e2 rfl
theorem ep_imp {R R' : Hp → V → Hp → Prop} (h : EvP te σ H R) (hr : ∀ H1 v H2, Ex H H1 → R H1 v H2 → R' H1 v H2) : EvP te σ H R' := fun H1 e Q q => h H1 e Q fun v H2 e2 z => q v H2 e2 (hr _ _ _ e z)
/-! ### operations -/
theorem ev_eqD (ha : EvD K ta σ H d) (hb : EvD K tb σ H d') (h1 : SeqAt.shaped d = true) (h2 : SeqAt.shaped d' = true) : Ev (tOp (rEqD K) ta tb) σ H (.bl (PyData.eqv d d')) := fun H1 e Q q =>
  ha H1 e _ fun v H2 e2 h => hb H2 (e.trans e2) _ fun w H3 e3 h' => ⟨d, d', Dp.mono e3 h, h', h1, h2, q H3 (e2.trans e3)⟩
theorem ev_neD (ha : EvD K ta σ H d) (hb : EvD K tb σ H d') (h1 : SeqAt.shaped d = true) (h2 : SeqAt.shaped d' = true) : Ev (tOp (rNeD K) ta tb) σ H (.bl (!PyData.eqv d d')) := fun H1 e Q q =>
  ha H1 e _ fun v H2 e2 h => hb H2 (e.trans e2) _ fun w H3 e3 h' => ⟨d, d', Dp.mono e3 h, h', h1, h2, q H3 (e2.trans e3)⟩
theorem ev_inD {ds : List PyData} (ha : EvD K ta σ H d) (hb : EvD K tb σ H (.list ds)) (h1 : SeqAt.shaped d = true) (h2 : SeqAt.shaped (.list ds) = true) : Ev (tOp (rInD K) ta tb) σ H (.bl (ds.any fun z => PyData.eqv z d)) := fun H1 e Q q =>
  ha H1 e _ fun v H2 e2 h => hb H2 (e.trans e2) _ fun w H3 e3 h' => ⟨d, ds, Dp.mono e3 h, h', h1, h2, q H3 (e2.trans e3)⟩
theorem ev_notInD {ds : List PyData} (ha : EvD K ta σ H d) (hb : EvD K tb σ H (.list ds)) (h1 : SeqAt.shaped d = true) (h2 : SeqAt.shaped (.list ds) = true) : Ev (tOp (rNotInD K) ta tb) σ H (.bl (!ds.any fun z => PyData.eqv z d)) := fun H1 e Q q =>
  ha H1 e _ fun v H2 e2 h => hb H2 (e.trans e2) _ fun w H3 e3 h' => ⟨d, ds, Dp.mono e3 h, h', h1, h2, q H3 (e2.trans e3)⟩
theorem ev_chain {b b' : Bool} (ha : Ev ta σ H x) (hb : Ev tb σ H y) (hr : RV r x y H (.bl b)) (hc : b = true → Ev tc σ H z) (hr' : b = true → RV r' y z H (.bl b')) : Ev (tChain r r' ta tb tc) σ H (.bl (b && b')) := fun H1 e Q q =>
  ha H1 e _ fun H2 e2 => hb H2 (e.trans e2) _ fun H3 e3 => hr H3 ((e.trans e2).trans e3) _ fun H4 e4 => ⟨b, rfl, by
    cases b with
    | true =>
      show tc σ H4 _
      refine hc rfl H4 (((e.trans e2).trans e3).trans e4) _ fun H5 e5 => ?_
      exact hr' rfl H5 ((((e.trans e2).trans e3).trans e4).trans e5) Q fun H6 e6 => q H6 ((((e2.trans e3).trans e4).trans e5).trans e6)
    | false =>
      show Q (.bl false) H4
      exact q H4 ((e2.trans e3).trans e4)⟩
theorem ev_lenS {xs : List V} (ha : EvS K ta σ H xs) : Ev (tCB (rLenS K) (tCons ta tNil)) σ H (.int (xs.length : Int)) := fun H1 e Q q =>
  ha H1 e _ fun p H2 e2 h2 => ⟨p, xs, rfl, Or.inl h2, q H2 e2⟩
theorem ev_lenT {xs : List V} (ha : EvST K ta σ H xs) : Ev (tCB (rLenS K) (tCons ta tNil)) σ H (.int (xs.length : Int)) := fun H1 e Q q =>
  ha H1 e _ fun p H2 e2 h2 => ⟨p, xs, rfl, Or.inr h2, q H2 e2⟩
theorem el_listS {xs : List V} (ha : EvS K ta σ H xs) : EvL (tCB (rListS K) (tCons ta tNil)) σ H xs := fun H1 e Q q =>
  ha H1 e _ fun p H2 e2 h2 => ⟨p, xs, rfl, Or.inl h2, fun l hl => q l _ (fresh_back e2 hl) (e2.trans (Ex.new hl)) upd_same⟩
theorem ev_sumS {ns : List Int} (ha : EvS K ta σ H (ns.map V.int)) : Ev (tCB (rSum K) (tCons ta tNil)) σ H (.int ns.sum) := fun H1 e Q q =>
  ha H1 e _ fun p H2 e2 h2 => ⟨p, ns, rfl, h2, q H2 e2⟩
theorem ev_allS {bs : List Bool} (ha : EvS K ta σ H (bs.map V.bl)) : Ev (tCB (rAll K) (tCons ta tNil)) σ H (.bl (bs.all id)) := fun H1 e Q q =>
  ha H1 e _ fun p H2 e2 h2 => ⟨p, bs, rfl, h2, q H2 e2⟩
theorem ev_anyS {bs : List Bool} (ha : EvS K ta σ H (bs.map V.bl)) : Ev (tCB (rAny K) (tCons ta tNil)) σ H (.bl (bs.any id)) := fun H1 e Q q =>
  ha H1 e _ fun p H2 e2 h2 => ⟨p, bs, rfl, h2, q H2 e2⟩
theorem ev_abs {i : Int} (ha : Ev ta σ H (.int i)) : Ev (tCB rAbs (tCons ta tNil)) σ H (.int (if i < 0 then -i else i)) := fun H1 e Q q =>
  ha H1 e _ fun H2 e2 => ⟨i, rfl, q H2 e2⟩
theorem el_slS {tl' th : TO} {lo hi : Option Int} (h : EvS K te σ H xs) (h1 : EvO tl' σ H lo) (h2 : EvO th σ H hi) : EvL (tSl (rSlL K) te tl' th) σ H (cutV xs lo hi) := fun H1 e _ q =>
  h H1 e _ fun a H2 e2 hs => h1 H2 (e.trans e2) _ fun H3 e3 => h2 H3 ((e.trans e2).trans e3) _ fun H4 e4 =>
    ⟨a, xs, rfl, ex_l (e3.trans e4) hs, fun p hp => q p _ (fresh_back ((e2.trans e3).trans e4) hp) (((e2.trans e3).trans e4).trans (Ex.new hp)) upd_same⟩
theorem ev_inS {ns : List Int} {i : Int} (ha : Ev ta σ H (.int i)) (hb : EvS K tb σ H (ns.map V.int)) : Ev (tOp (rIn K false) ta tb) σ H (.bl (inV (.int i) (ns.map V.int))) := fun H1 e Q q =>
  ha H1 e _ fun H2 e2 => hb H2 (e.trans e2) _ fun p H3 e3 h3 => ⟨p, _, rfl, Or.inl h3, rfl, by rw [List.all_map]; exact List.all_eq_true.mpr fun _ _ => rfl, q H3 (e2.trans e3)⟩
theorem ev_notInS {ns : List Int} {i : Int} (ha : Ev ta σ H (.int i)) (hb : EvS K tb σ H (ns.map V.int)) : Ev (tOp (rIn K true) ta tb) σ H (.bl (!inV (.int i) (ns.map V.int))) := fun H1 e Q q =>
  ha H1 e _ fun H2 e2 => hb H2 (e.trans e2) _ fun p H3 e3 h3 => ⟨p, _, rfl, Or.inl h3, rfl, by rw [List.all_map]; exact List.all_eq_true.mpr fun _ _ => rfl, q H3 (e2.trans e3)⟩
theorem inV_ints (i : Int) (ns : List Int) : inV (.int i) (ns.map V.int) = decide (i ∈ ns) := by
  induction ns with
  | nil => simp [inV]
  | cons n r ih =>
    have e : inV (.int i) ((n :: r).map V.int) = (eqV (.int n) (.int i) || inV (.int i) (r.map V.int)) := rfl
    rw [e, ih]
    have e2 : eqV (.int n) (.int i) = decide (n = i) := by
      show ((n == i) : Bool) = decide (n = i)
      exact Bool.beq_eq_decide_eq n i
    rw [e2, Bool.eq_iff_iff]
    simp only [Bool.or_eq_true, decide_eq_true_eq, List.mem_cons]
    exact ⟨fun h => h.elim (fun h => .inl h.symm) .inr, fun h => h.elim (fun h => .inl h.symm) .inr⟩
theorem ev_isIn {ns : List Int} {i : Int} (ha : Ev ta σ H (.int i)) (hb : EvS K tb σ H (ns.map V.int)) : Ev (tOp (rIn K false) ta tb) σ H (.bl (decide (i ∈ ns))) := ev_is (ev_inS ha hb) (by rw [inV_ints])
theorem ev_notIn {ns : List Int} {i : Int} (ha : Ev ta σ H (.int i)) (hb : EvS K tb σ H (ns.map V.int)) : Ev (tOp (rIn K true) ta tb) σ H (.bl (!decide (i ∈ ns))) := ev_is (ev_notInS ha hb) (by rw [inV_ints])
/-- in a written pair of ints -/
theorem ev_inT2 {i j k : Int} (ha : Ev ta σ H (.int i)) (hb : EvST K tb σ H [.int j, .int k]) : Ev (tOp (rIn K false) ta tb) σ H (.bl (decide (i = j ∨ i = k))) := fun H1 e Q q =>
  ha H1 e _ fun H2 e2 => hb H2 (e.trans e2) _ fun p H3 e3 h3 => ⟨p, _, rfl, Or.inr h3, rfl, rfl, by
    have w := inV_ints i [j, k]
    have w2 : inV (.int i) [V.int j, V.int k] = decide (i = j ∨ i = k) := by
      rw [show [V.int j, V.int k] = [j, k].map V.int from rfl, w]
      simp
    show Q (.bl (inV (.int i) [V.int j, V.int k])) H3
    rw [w2]
    exact q H3 (e2.trans e3)⟩
theorem ev_ixS {i : Int} (ha : EvS K ta σ H xs) (hb : Ev tb σ H (.int i)) (hx : atI xs i = some v) : Ev (tOp (rIxL K) ta tb) σ H v := fun H1 e Q q =>
  ha H1 e _ fun p H2 e2 h2 => hb H2 (e.trans e2) _ fun H3 e3 => ⟨p, xs, i, v, rfl, rfl, ex_l e3 h2, hx, q H3 (e2.trans e3)⟩
theorem ev_ixT {i : Int} (ha : EvST K ta σ H xs) (hb : Ev tb σ H (.int i)) (hx : atI xs i = some v) : Ev (tOp (rIxT K) ta tb) σ H v := fun H1 e Q q =>
  ha H1 e _ fun p H2 e2 h2 => hb H2 (e.trans e2) _ fun H3 e3 => ⟨p, xs, i, v, rfl, rfl, ex_t e3 h2, hx, q H3 (e2.trans e3)⟩
/-- isinstance -/
theorem ev_isi {c : V} {ty cv : Value} {b : Bool} (ha : Ev ta σ H x) (hc : Ev tc σ H c) (hv : ClsV c cv) (ht : ∀ H1, Ex H H1 → TyX K H1 x ty) (hk : PySem.W.kitOne K ty cv = some b) : Ev (tCB (rIsi K) (tCons ta (tCons tc tNil))) σ H (.bl b) := fun H1 e Q q =>
  ha H1 e _ fun H2 e2 => hc H2 (e.trans e2) _ fun H3 e3 => ⟨x, c, ty, cv, b, rfl, hv, ht H3 ((e.trans e2).trans e3), hk, q H3 (e2.trans e3)⟩
theorem filter_yes {α : Type} (l : List α) : (l.filter fun _ => true) = l := List.filter_eq_self.mpr fun _ _ => rfl
/-! ### comprehensions -/
/-- what holds while a new list at Dl grows: all that H1 knew stands -/
def Grow (H1 : Hp) (Dl : Addr) (ys : List V) (H' : Hp) : Prop := H1 Dl = none ∧ Ex H1 H' ∧ H' Dl = some (.lst ys)
theorem grow_turn {H1 H' : Hp} {Dl : Addr} {ys : List V} {b0 : Bool} {w : V} {σ2 : L2.St} (p : Grow H1 Dl ys H') (hz : ys.length < 100000) (ht : EvT t σ2 H1 b0) (he : b0 = true → Ev te σ2 H1 w) :
    t σ2 H' fun b H3 => if b = true then te σ2 H3 fun y H4 => ∃ acc, H4 Dl = some (.lst acc) ∧ acc.length < sizeLine ∧ Grow H1 Dl (ys ++ if b0 = true then [w] else []) (upd H4 Dl (.lst (acc ++ [y]))) else Grow H1 Dl (ys ++ if b0 = true then [w] else []) H3 := by
  obtain ⟨p1, p2, p3⟩ := p
  refine ht H' p2 _ fun H3 e3 => ?_
  cases b0 with
  | true =>
    show te σ2 H3 _
    refine he rfl H3 (p2.trans e3) _ fun H4 e4 => ⟨ys, e4 Dl _ (e3 Dl _ p3), sz_lt hz, p1, Ex.mut ((p2.trans e3).trans e4) p1, ?_⟩
    exact upd_same
  | false =>
    show Grow H1 Dl (ys ++ []) H3
    rw [List.append_nil]
    exact ⟨p1, p2.trans e3, e3 Dl _ p3⟩
theorem take_snoc {α : Type} {l : List α} {i : Nat} {x : α} (h : l[i]? = some x) : l.take (i + 1) = l.take i ++ [x] := by
  rw [List.take_add_one, h]
  rfl
/-- [e for x in xs if t], xs a list -/
theorem el_lc {j : Nat} {vs : List Nat} (f : V → Bool) (g : V → V) (h : EvS K tl σ H xs) (hz : xs.length ≤ 40000) (hw : ∀ x, wipe ((wipe σ vs).set j (some x)) vs = wipe σ vs)
    (ht : ∀ (x : V) H1, Ex H H1 → x ∈ xs → EvT t ((wipe σ vs).set j (some x)) H1 (f x)) (he : ∀ (x : V) H1, Ex H H1 → x ∈ xs → f x = true → Ev te ((wipe σ vs).set j (some x)) H1 (g x)) :
    EvL (tLc (iList K tl) (gName j) t te vs) σ H ((xs.filter f).map g) := fun H0 e Q q => h H0 e _ fun a H1 e1 hx => ⟨a, rfl, ⟨xs, hx⟩, fun Dl hD =>
  lc_list (xs := xs) (fun i => Grow H1 Dl (((xs.take i).filter f).map g)) ⟨hD, Ex.new hD, upd_same⟩ (fun i H' _ p => ex_l p.2.1 hx) (fun i x H' hi p => ⟨hw x, by
      have hm : x ∈ xs := List.mem_of_getElem? hi
      have hlen : (((xs.take i).filter f).map g).length < 100000 := by
        rw [List.length_map]
        have h1 := List.length_filter_le f (xs.take i)
        have h2 : (xs.take i).length ≤ xs.length := by rw [List.length_take]; omega
        omega
      have w := grow_turn p hlen (ht x H1 (e.trans e1) hm) (he x H1 (e.trans e1) hm)
      have e2 : (((xs.take (i + 1)).filter f).map g) = ((xs.take i).filter f).map g ++ if f x = true then [g x] else [] := by
        rw [take_snoc hi, List.filter_append, List.map_append]
        congr 1
        cases hf : f x <;> simp [hf]
      rw [e2]
      exact w⟩)
    (fun H' p => by
      rw [List.take_length] at p
      exact q Dl H' (fresh_back e1 p.1) (e1.trans p.2.1) p.2.2)⟩
/-- the same over ints -/
theorem el_lcI {ns : List Int} {j : Nat} {vs : List Nat} (f : Int → Bool) (g : Int → V) (h : EvS K tl σ H (ns.map V.int)) (hz : ns.length ≤ 40000) (hw : ∀ x, wipe ((wipe σ vs).set j (some x)) vs = wipe σ vs)
    (ht : ∀ (n : Int) H1, Ex H H1 → n ∈ ns → EvT t ((wipe σ vs).set j (some (.int n))) H1 (f n)) (he : ∀ (n : Int) H1, Ex H H1 → n ∈ ns → f n = true → Ev te ((wipe σ vs).set j (some (.int n))) H1 (g n)) :
    EvL (tLc (iList K tl) (gName j) t te vs) σ H ((ns.filter f).map g) := by
  have key : ((ns.map V.int).filter (fun v => match v with | .int n => f n | _ => false)).map (fun v => match v with | .int n => g n | _ => v) = (ns.filter f).map g := by
    clear h hz ht he
    induction ns with
    | nil => rfl
    | cons n r ih =>
      rw [List.map_cons, List.filter_cons, List.filter_cons]
      cases hf : f n <;> simp [ih, hf]
  rw [← key]
  refine el_lc _ _ h (by rw [List.length_map]; exact hz) hw (fun x H1 e hx => ?_) (fun x H1 e hx hf => ?_)
  · obtain ⟨n, hn, rfl⟩ := List.mem_map.mp hx
    exact ht n H1 e hn
  · obtain ⟨n, hn, rfl⟩ := List.mem_map.mp hx
    exact he n H1 e hn hf
/-- over range(n) -/
theorem el_lcR {ta : TA} {j : Nat} {vs : List Nat} {n : Nat} (f : Nat → Bool) (g : Nat → V) (h : EvA ta σ H [.int (n : Int)]) (hn : n ≤ 40000) (hw : ∀ x, wipe ((wipe σ vs).set j (some x)) vs = wipe σ vs)
    (ht : ∀ (i : Nat) H1, Ex H H1 → i < n → EvT t ((wipe σ vs).set j (some (.int (i : Int)))) H1 (f i)) (he : ∀ (i : Nat) H1, Ex H H1 → i < n → f i = true → Ev te ((wipe σ vs).set j (some (.int (i : Int)))) H1 (g i)) :
    EvL (tLc (iRng1 ta) (gName j) t te vs) σ H (((List.range n).filter f).map g) := by
  have w := el_lcR1 (t := t) (te := te) (vs := vs) (j := j) f g h ⟨by omega, by omega⟩ hw (fun i H1 e hi => ht i H1 e (by omega)) (fun i H1 e hi hf => he i H1 e (by omega) hf)
  rw [Int.toNat_natCast] at w
  exact w
theorem et_yes : EvT tYes σ H true := fun H1 _ _ q => q H1 (Ex.refl H1)
/-- over a tuple -/
theorem el_lcT {j : Nat} {vs : List Nat} (f : V → Bool) (g : V → V) (h : EvST K tl σ H xs) (hz : xs.length ≤ 40000) (hw : ∀ x, wipe ((wipe σ vs).set j (some x)) vs = wipe σ vs)
    (ht : ∀ (x : V) H1, Ex H H1 → x ∈ xs → EvT t ((wipe σ vs).set j (some x)) H1 (f x)) (he : ∀ (x : V) H1, Ex H H1 → x ∈ xs → f x = true → Ev te ((wipe σ vs).set j (some x)) H1 (g x)) :
    EvL (tLc (iTup K tl) (gName j) t te vs) σ H ((xs.filter f).map g) := fun H0 e Q q => h H0 e _ fun a H1 e1 hx => ⟨a, rfl, ⟨xs, hx⟩, fun Dl hD =>
  lc_tup (xs := xs) (fun i => Grow H1 Dl (((xs.take i).filter f).map g)) ⟨hD, Ex.new hD, upd_same⟩ (fun i H' _ p => ex_t p.2.1 hx) (fun i x H' hi p => ⟨hw x, by
      have hm : x ∈ xs := List.mem_of_getElem? hi
      have hlen : (((xs.take i).filter f).map g).length < 100000 := by
        rw [List.length_map]
        have h1 := List.length_filter_le f (xs.take i)
        have h2 : (xs.take i).length ≤ xs.length := by rw [List.length_take]; omega
        omega
      have w := grow_turn p hlen (ht x H1 (e.trans e1) hm) (he x H1 (e.trans e1) hm)
      have e2 : (((xs.take (i + 1)).filter f).map g) = ((xs.take i).filter f).map g ++ if f x = true then [g x] else [] := by
        rw [take_snoc hi, List.filter_append, List.map_append]
        congr 1
        cases hf : f x <;> simp [hf]
      rw [e2]
      exact w⟩)
    (fun H' p => by
      rw [List.take_length] at p
      exact q Dl H' (fresh_back e1 p.1) (e1.trans p.2.1) p.2.2)⟩
/-- over zip(xs, ys) -/
theorem el_lcZ {i j : Nat} {vs : List Nat} (f : V × V → Bool) (g : V × V → V) (ha : EvS K ta σ H xs) (hb : EvS K tb σ H ys) (hz : xs.length ≤ 40000) (hw : ∀ x y, wipe (((wipe σ vs).set i (some x)).set j (some y)) vs = wipe σ vs)
    (ht : ∀ (p : V × V) H1, Ex H H1 → p ∈ xs.zip ys → EvT t (((wipe σ vs).set i (some p.1)).set j (some p.2)) H1 (f p)) (he : ∀ (p : V × V) H1, Ex H H1 → p ∈ xs.zip ys → f p = true → Ev te (((wipe σ vs).set i (some p.1)).set j (some p.2)) H1 (g p)) :
    EvL (tLc (iZip K (tCons ta (tCons tb tNil))) (gTup K 2 (gCons (gName i) (gCons (gName j) gNil))) t te vs) σ H (((xs.zip ys).filter f).map g) := fun H0 e Q q => ha H0 e _ fun a H1 e1 hx => hb H1 (e.trans e1) _ fun b H2 e2 hy => ⟨a, b, xs, ys, rfl, ex_l e2 hx, hy, fun Dl hD => by
  have hx2 := ex_l e2 hx
  have hl : (xs.zip ys).length = min xs.length ys.length := List.length_zip
  refine ⟨fun n m H' => m = (xs.zip ys).length - n ∧ n ≤ (xs.zip ys).length ∧ Grow H2 Dl ((((xs.zip ys).take n).filter f).map g) H', ⟨(xs.zip ys).length, by simp, Nat.zero_le _, hD, Ex.new hD, upd_same⟩, ?_⟩
  rintro n m H' ⟨rfl, hn, p⟩
  by_cases hlt : n < (xs.zip ys).length
  · have h1 : n < xs.length := by omega
    have h2 : n < ys.length := by omega
    have g1 : xs[n]? = some xs[n] := List.getElem?_eq_getElem h1
    have g2 : ys[n]? = some ys[n] := List.getElem?_eq_getElem h2
    have g3 : (xs.zip ys)[n]? = some (xs[n], ys[n]) := by
      rw [List.getElem?_zip_eq_some]
      exact ⟨g1, g2⟩
    refine .inr ⟨⟨xs, ys, _, _, ex_l p.2.1 hx2, ex_l p.2.1 hy, g1, g2⟩, fun H'' => Grow H2 Dl ((((xs.zip ys).take (n + 1)).filter f).map g) H'', fun H'' z => ⟨_, by omega, rfl, hlt, z⟩, fun v H'' hv => ?_⟩
    obtain ⟨T, x, y, rfl, nT, rfl, f1, f2⟩ := hv
    have ex : x = xs[n] := Option.some.inj ((f1 _ (ex_l p.2.1 hx2)).symm.trans g1)
    have ey : y = ys[n] := Option.some.inj ((f2 _ (ex_l p.2.1 hy)).symm.trans g2)
    subst ex ey
    refine ⟨T, _, rfl, st_of upd_same, rfl, _, _, rfl, _, _, rfl, rfl, hw _ _, ?_⟩
    have hm : (xs[n], ys[n]) ∈ xs.zip ys := List.mem_of_getElem? g3
    have hlen : ((((xs.zip ys).take n).filter f).map g).length < 100000 := by
      rw [List.length_map]
      have h1 := List.length_filter_le f ((xs.zip ys).take n)
      have h2 : ((xs.zip ys).take n).length ≤ (xs.zip ys).length := by rw [List.length_take]; omega
      omega
    have p' : Grow H2 Dl ((((xs.zip ys).take n).filter f).map g) (upd H' T (.tup [xs[n], ys[n]])) := ⟨p.1, p.2.1.trans (Ex.new nT), by rw [upd_ne (ne_of_none p.2.2 nT)]; exact p.2.2⟩
    have w := grow_turn p' hlen (ht (xs[n], ys[n]) H2 ((e.trans e1).trans e2) hm) (he (xs[n], ys[n]) H2 ((e.trans e1).trans e2) hm)
    have e3 : ((((xs.zip ys).take (n + 1)).filter f).map g) = (((xs.zip ys).take n).filter f).map g ++ if f (xs[n], ys[n]) = true then [g (xs[n], ys[n])] else [] := by
      rw [take_snoc g3, List.filter_append, List.map_append]
      congr 1
      cases hf : f (xs[n], ys[n]) <;> simp [hf]
    rw [e3]
    exact w
  · refine .inl ⟨⟨xs, ys, ex_l p.2.1 hx2, ex_l p.2.1 hy, by omega⟩, ?_⟩
    have e3 : n = (xs.zip ys).length := by omega
    rw [e3, List.take_length] at p
    exact q Dl H' (fresh_back (e1.trans e2) p.1) ((e1.trans e2).trans p.2.1) p.2.2⟩
/-! ### statements -/
variable {D : Ends} {tu tw tz : TS}
/-- a, b = e, e a tuple of two -/
theorem q_unp {i j : Nat} (h : EvST K te σ H [x, y]) (k : ∀ H1, Ex H H1 → tz D ((σ.set i (some x)).set j (some y)) H1) : tSeq (tAsg te (gTup K 2 (gCons (gName i) (gCons (gName j) gNil)))) tz D σ H :=
  h H (Ex.refl H) _ fun p H1 e hp => ⟨p, [x, y], rfl, hp, rfl, x, [y], rfl, y, [], rfl, rfl, k H1 e⟩
theorem s_unp {i j : Nat} (h : EvST K te σ H [x, y]) (k : ∀ H1, Ex H H1 → D.nx ((σ.set i (some x)).set j (some y)) H1) : tAsg te (gTup K 2 (gCons (gName i) (gCons (gName j) gNil))) D σ H :=
  h H (Ex.refl H) _ fun p H1 e hp => ⟨p, [x, y], rfl, hp, rfl, x, [y], rfl, y, [], rfl, rfl, k H1 e⟩
/-- a, b = e1, e2 -/
theorem q_par {i j : Nat} (h : Ev ta σ H x) (h' : Ev tb σ H y) (k : ∀ H1, Ex H H1 → tz D ((σ.set i (some x)).set j (some y)) H1) : tSeq (tPar i j (tCons ta (tCons tb tNil))) tz D σ H :=
  h H (Ex.refl H) _ fun H1 e => h' H1 e _ fun H2 e2 => ⟨x, y, rfl, k H2 (e.trans e2)⟩
/-- if t: xs.append(e) -/
theorem q_ifApp {b : Bool} {l : Addr} (ht : EvT t σ H b) (hl : H l = some (.lst xs)) (ha : Ev ta σ H (.ref l)) (h : b = true → Ev te σ H v) (hz : xs.length < 100000) (k : ∀ H1, (∀ c o, c ≠ l → H c = some o → H1 c = some o) → H1 l = some (.lst (xs ++ if b = true then [v] else [])) → tz D σ H1) :
    tSeq (tIfS t (tDrop (tBM K "list" rAppend ta (tCons te tNil))) tNext) tz D σ H := q_when ht
  (fun hb H1 e1 => s_app (e1 l _ hl) (ha.mono e1) ((h hb).mono e1) hz fun H2 e2 => k _ (fun c o hc ho => by rw [upd_ne hc]; exact e2 _ _ (e1 _ _ ho)) (by rw [upd_same, if_pos hb]))
  (fun hb H1 e1 => k H1 (fun c o _ ho => e1 _ _ ho) (by rw [hb, if_neg Bool.false_ne_true, List.append_nil]; exact e1 _ _ hl))
theorem el_if {b : Bool} (h : EvT t σ H b) (h1 : b = true → EvL ta σ H xs) (h2 : b = false → EvL tb σ H xs) : EvL (tIf t ta tb) σ H xs := fun H1 e Q q => h H1 e _ fun H2 e2 => by
  cases b with
  | true =>
    show ta σ H2 Q
    exact h1 rfl H2 (e.trans e2) Q fun p H3 hp e3 h3 => q p H3 (fresh_back e2 hp) (e2.trans e3) h3
  | false =>
    show tb σ H2 Q
    exact h2 rfl H2 (e.trans e2) Q fun p H3 hp e3 h3 => q p H3 (fresh_back e2 hp) (e2.trans e3) h3
theorem eu_if {b : Bool} (h : EvT t σ H b) (h1 : b = true → EvU ta σ H xs) (h2 : b = false → EvU tb σ H xs) : EvU (tIf t ta tb) σ H xs := fun H1 e Q q => h H1 e _ fun H2 e2 => by
  cases b with
  | true =>
    show ta σ H2 Q
    exact h1 rfl H2 (e.trans e2) Q fun p H3 hp e3 h3 => q p H3 (fresh_back e2 hp) (e2.trans e3) h3
  | false =>
    show tb σ H2 Q
    exact h2 rfl H2 (e.trans e2) Q fun p H3 hp e3 h3 => q p H3 (fresh_back e2 hp) (e2.trans e3) h3
theorem q_asgP {R : Hp → V → Hp → Prop} {i : Nat} (h : EvP te σ H R) (k : ∀ v H1, Ex H H1 → R H v H1 → tz D (σ.set i (some v)) H1) : tSeq (tAsg te (gName i)) tz D σ H := h H (Ex.refl H) _ fun v H1 e z => k v H1 e z
theorem s_asgP {R : Hp → V → Hp → Prop} {i : Nat} (h : EvP te σ H R) (k : ∀ v H1, Ex H H1 → R H v H1 → D.nx (σ.set i (some v)) H1) : tAsg te (gName i) D σ H := h H (Ex.refl H) _ fun v H1 e z => k v H1 e z
/-- a, b = e1, e2, the second a new list -/
theorem q_parL {i j : Nat} (h : Ev ta σ H x) (h' : EvL tb σ H xs) (k : ∀ p H1, H p = none → Ex H H1 → H1 p = some (.lst xs) → tz D ((σ.set i (some x)).set j (some (.ref p))) H1) : tSeq (tPar i j (tCons ta (tCons tb tNil))) tz D σ H :=
  h H (Ex.refl H) _ fun H1 e => h' H1 e _ fun p H2 hp e2 h2 => ⟨x, _, rfl, k p H2 (fresh_back e hp) (e.trans e2) h2⟩
/-- .. the first a new list -/
theorem q_parL1 {i j : Nat} (h : EvL ta σ H xs) (h' : Ev tb σ H y) (k : ∀ p H1, H p = none → Ex H H1 → H1 p = some (.lst xs) → tz D ((σ.set i (some (.ref p))).set j (some y)) H1) : tSeq (tPar i j (tCons ta (tCons tb tNil))) tz D σ H :=
  h H (Ex.refl H) _ fun p H1 hp e h1 => h' H1 e _ fun H2 e2 => ⟨_, y, rfl, k p H2 hp (e.trans e2) (e2 _ _ h1)⟩
end
/-! ### further statements -/
section
variable {K : PySem.W.Frag} {σ : L2.St} {H H' : Hp} {ta tb tc te tl : TE} {t u : TT} {x y z v : V} {xs ys : List V} {D : Ends} {tu tw tz : TS}
/-- a, b = e1, e2 by a tuple, the first a new list -/
theorem q_tupLV {i j : Nat} (h : EvL ta σ H xs) (h' : Ev tb σ H y) (k : ∀ p H1, H p = none → Ex H H1 → H1 p = some (.lst xs) → tz D ((σ.set i (some (.ref p))).set j (some y)) H1) :
    tSeq (tAsg (tTup (tCons ta (tCons tb tNil))) (gTup K 2 (gCons (gName i) (gCons (gName j) gNil)))) tz D σ H :=
  h H (Ex.refl H) _ fun p H1 hp e h1 => h' H1 e _ fun H2 e2 => ⟨sz_of (by simp), fun q hq => ⟨q, _, rfl, st_of upd_same, rfl, _, _, rfl, _, _, rfl, rfl, k p _ hp ((e.trans e2).trans (Ex.new hq)) (Ex.new hq _ _ (e2 _ _ h1))⟩⟩
/-- xs.extend(a new list) -/
theorem s_extL {l : Addr} (hl : H l = some (.lst xs)) (ha : Ev ta σ H (.ref l)) (h : EvL te σ H ys) (hz : xs.length + ys.length ≤ 100000) (k : ∀ H1, Ex H H1 → D.nx σ (upd H1 l (.lst (xs ++ ys)))) :
    tDrop (tBM K "list" rExtend ta (tCons te tNil)) D σ H := ha H (Ex.refl H) _ fun H1 e1 =>
  ⟨Or.inl ⟨rfl, xs, sq_of (e1 l _ hl)⟩, h H1 e1 _ fun p H2 hp e2 h2 => ⟨l, p, xs, ys, rfl, rfl, e2 l _ (e1 l _ hl), h2, sz_of hz, k H2 (e1.trans e2)⟩⟩
theorem q_extL {l : Addr} (hl : H l = some (.lst xs)) (ha : Ev ta σ H (.ref l)) (h : EvL te σ H ys) (hz : xs.length + ys.length ≤ 100000) (k : ∀ H1, Ex H H1 → tz D σ (upd H1 l (.lst (xs ++ ys)))) :
    tSeq (tDrop (tBM K "list" rExtend ta (tCons te tNil))) tz D σ H := s_extL (D := { D with nx := tz D }) hl ha h hz k
theorem rv_isN : RV rIsN x .non H (.bl (decide (x = .non))) := fun H1 _ _ q => ⟨rfl, q H1 (Ex.refl H1)⟩
theorem rv_notN : RV rNotN x .non H (.bl (!decide (x = .non))) := fun H1 _ _ q => ⟨rfl, q H1 (Ex.refl H1)⟩
theorem rv_isB {a b : Bool} : RV rIsB (.bl a) (.bl b) H (.bl (decide (a = b))) := fun H1 _ _ q => ⟨a, b, rfl, rfl, q H1 (Ex.refl H1)⟩
theorem rv_notB {a b : Bool} : RV rNotB (.bl a) (.bl b) H (.bl (!decide (a = b))) := fun H1 _ _ q => ⟨a, b, rfl, rfl, q H1 (Ex.refl H1)⟩
end
end Sd

/-! The program and the laws' helpers as plain functions over ints, naturals and lists: no Python here. -/
namespace Sd
/-- a grid -/
def GOk (h w : Nat) : Prop := 1 ≤ h ∧ h ≤ 6 ∧ 1 ≤ w ∧ w ≤ 6
/-- some cells of it: rising, one at least -/
def Rising (cs : List Int) : Prop := cs.Pairwise (· < ·)
def InGrid (h w : Nat) (cs : List Int) : Prop := ∀ x ∈ cs, 0 ≤ x ∧ x < (h : Int) * w
def COk (h w : Nat) (cs : List Int) : Prop := cs ≠ [] ∧ InGrid h w cs ∧ Rising cs
def besideA (w : Nat) (x : Int) : List Int := if (w : Int) ≤ x then [x - w] else []
def besideB (w : Nat) (x : Int) : List Int := if 0 < x % (w : Int) then [x - 1] else []
def besideC (w : Nat) (x : Int) : List Int := if x % (w : Int) < (w : Int) - 1 then [x + 1] else []
def besideD (h w : Nat) (x : Int) : List Int := if x < (w : Int) * ((h : Int) - 1) then [x + w] else []
/-- the cells beside a cell, rising -/
def beside (h w : Nat) (x : Int) : List Int := besideA w x ++ besideB w x ++ besideC w x ++ besideD h w x
/-- how many sides of a cell are on the rim -/
def near (h w : Nat) (cs : List Int) (x : Int) : Nat := ((beside h w x).filter fun o => decide (o ∈ cs)).length
def sidesOf (h w : Nat) (cs : List Int) (x : Int) : Int := if x ∈ cs then 4 - (near h w cs x : Int) else (near h w cs x : Int)
def numbersOf (h w : Nat) (cs : List Int) : List (List Int) := (List.range h).map fun (r : Nat) => (List.range w).map fun (a : Nat) => sidesOf h w cs ((r : Int) * w + (a : Int))
theorem beside_len (h w : Nat) (x : Int) : (beside h w x).length ≤ 4 := by
  unfold beside besideA besideB besideC besideD
  simp only [List.length_append]
  split <;> split <;> split <;> split <;> simp
theorem hw_le {h w : Nat} (g : GOk h w) : (h : Int) * w ≤ 36 ∧ 1 ≤ (h : Int) * w := by
  obtain ⟨h1, h2, h3, h4⟩ := g
  have e1 : h = 1 ∨ h = 2 ∨ h = 3 ∨ h = 4 ∨ h = 5 ∨ h = 6 := by omega
  rcases e1 with rfl | rfl | rfl | rfl | rfl | rfl <;> omega
/-! ### the laws' helpers -/
def lNumber (c a s : Int) : Int :=
  if 10 ^ 18 ≤ c then c
  else
    let m := ((c + 977 * a) * 48271 + s) % 2147483647
    let n := m * (m + 31 * a + 7) * (m + c + 5)
    n * (n + 48271) / 1009
def lGridGo (most : Nat) : Nat → Nat → Nat → Nat × Nat
  | 0, h, w => (h, w)
  | k + 1, h, w => if most < h * w then (if w < h then lGridGo most k (h - 1) w else lGridGo most k h (w - 1)) else (h, w)
def lGrid (n : Int) (most : Nat) : Nat × Nat := lGridGo most 12 (1 + n % 6).toNat (1 + n / 6 % 6).toNat
def lSpots (r a : Int) : List (Int × Int) := [(r - 1, a), (r, a - 1), (r, a + 1), (r + 1, a)]
def lBeside (h w : Nat) (x : Int) : List Int :=
  ((lSpots (x / (w : Int)) (x % (w : Int))).filter fun (p : Int × Int) => (decide (0 ≤ p.1) && decide (p.1 < (h : Int))) && (decide (0 ≤ p.2) && decide (p.2 < (w : Int)))).map fun (p : Int × Int) => p.1 * (w : Int) + p.2
def lSides1 (h w : Nat) (cs : List Int) (x : Int) : Int :=
  ((lBeside h w x).length : Int) - (((lBeside h w x).filter fun o => decide (o ∈ cs) == decide (x ∈ cs)).length : Int) + (if x ∈ cs then 4 - ((lBeside h w x).length : Int) else 0)
def lNumbers (h w : Nat) (cs : List Int) : List (List Int) := (List.range h).map fun (r : Nat) => (List.range w).map fun (a : Nat) => lSides1 h w cs ((r : Int) * w + (a : Int))
/-- what the script draws -/
def lDrawn (ns : List Int) : List Int := if ns = [] then [5] else ns.take 63
def lPick (n k : Int) : Int := if k = 0 then n % 2 else if k = 1 then n % 3 else if k = 2 then 1 else n % 5
def lKeep (ns : List Int) (by_ : Int) (a : Nat) : Bool :=
  let ds := lDrawn ns
  let s := ds.sum + by_
  let n := lNumber (ds.getD (((a : Int) + by_) % (ds.length : Int)).toNat 0) ((a : Int) + by_) s / 3
  decide (0 < lPick n (s % 4))
def lCells0 (ns : List Int) (by_ : Int) (m : Nat) : List Int := ((List.range m).filter (lKeep ns by_)).map fun (a : Nat) => (a : Int)
def lCells (ns : List Int) (by_ : Int) (h w : Nat) : List Int :=
  let s := (lDrawn ns).sum + by_
  let f := lCells0 ns by_ (h * w)
  let f := if s % 4 = 2 then (f.filter fun c => decide (s / 4 % (h : Int) ≤ c / (w : Int))).filter fun c => decide (c % (w : Int) ≤ s / 8 % (w : Int)) else f
  if f = [] then [s % ((h : Int) * w)] else f
end Sd

/-! More mirrors: spread, is_inner, first_inner, is_ring. -/
namespace Sd
def spreadGo (h w : Nat) (cs : List Int) : Nat → List Int → Nat → List Int
  | 0, f, _ => f
  | k + 1, f, a =>
    match f[a]? with
    | none => f
    | some x => spreadGo h w cs k (f ++ (beside h w x).filter fun o => decide (o ∈ cs) && !decide (o ∈ f)) (a + 1)
/-- the cells come by from x within cs -/
def spread (h w : Nat) (x : Int) (cs : List Int) : List Int := spreadGo h w cs (cs.length + 2) [x] 0
def onEdge (h w : Nat) (x : Int) : Bool := decide (x < (w : Int)) || (decide ((w : Int) * ((h : Int) - 1) ≤ x) || decide (x % (w : Int) = 0 ∨ x % (w : Int) = (w : Int) - 1))
def restOf (h w : Nat) (cs : List Int) : List Int := ((List.range (h * w)).filter fun (i : Nat) => !decide ((i : Int) ∈ cs)).map fun (i : Nat) => (i : Int)
def isInner (h w : Nat) (cs : List Int) (x : Int) : Bool := (spread h w x (restOf h w cs)).all fun o => !onEdge h w o
def firstInner (h w : Nat) (cs : List Int) : Option Nat := (List.range (h * w)).find? fun (i : Nat) => !decide ((i : Int) ∈ cs) && isInner h w cs (i : Int)
def isRing (h w : Nat) (cs : List Int) : Bool := if (spread h w (cs.headD 0) cs).length < cs.length then false else (firstInner h w cs).isNone
/-! facts -/
theorem nodup_sub : ∀ {l m : List Int}, l.Nodup → (∀ o ∈ l, o ∈ m) → l.length ≤ m.length
  | [], m, _, _ => Nat.zero_le _
  | a :: r, m, hn, hs => by
    obtain ⟨h1, h2⟩ := List.nodup_cons.mp hn
    have ha := hs a List.mem_cons_self
    have := nodup_sub (m := m.erase a) h2 fun o ho => by
      have ne : o ≠ a := fun e => h1 (e ▸ ho)
      exact (List.mem_erase_of_ne ne).mpr (hs o (List.mem_cons_of_mem _ ho))
    rw [List.length_erase_of_mem ha] at this
    have : 0 < m.length := List.length_pos_of_mem ha
    rw [List.length_cons]
    omega
theorem beside_rising (h : Nat) {w : Nat} (hw : 0 < w) (x : Int) : (beside h w x).Pairwise (· < ·) := by
  unfold beside besideA besideB besideC besideD
  have m1 := Int.emod_lt_of_pos x (show (0 : Int) < (w : Int) by omega)
  have m0 := Int.emod_nonneg x (show (w : Int) ≠ 0 by omega)
  generalize x % (w : Int) = m at *
  split <;> split <;> split <;> split <;> simp <;> omega
theorem beside_nodup (h : Nat) {w : Nat} (hw : 0 < w) (x : Int) : (beside h w x).Nodup := (beside_rising h hw x).imp fun a => by omega
theorem spread_step {h w : Nat} (hw : 0 < w) {cs f : List Int} {x0 x : Int} (hn : f.Nodup) (hs : ∀ o ∈ f, o ∈ x0 :: cs) :
    (f ++ (beside h w x).filter fun o => decide (o ∈ cs) && !decide (o ∈ f)).Nodup ∧ ∀ o ∈ f ++ (beside h w x).filter fun o => decide (o ∈ cs) && !decide (o ∈ f), o ∈ x0 :: cs := by
  refine ⟨List.nodup_append.mpr ⟨hn, (beside_nodup h hw x).filter _, fun a ha b hb e => ?_⟩, fun o ho => ?_⟩
  · have := (List.mem_filter.mp hb).2
    simp only [Bool.and_eq_true, decide_eq_true_eq, Bool.not_eq_true', decide_eq_false_iff_not] at this
    exact this.2 (e ▸ ha)
  · rcases List.mem_append.mp ho with ho | ho
    · exact hs o ho
    · have := (List.mem_filter.mp ho).2
      simp only [Bool.and_eq_true, decide_eq_true_eq] at this
      exact List.mem_cons_of_mem _ this.1
theorem spreadGo_ok {h w : Nat} (hw : 0 < w) {cs : List Int} {x0 : Int} : ∀ (k : Nat) (f : List Int) (a : Nat), f.Nodup → (∀ o ∈ f, o ∈ x0 :: cs) → (spreadGo h w cs k f a).Nodup ∧ ∀ o ∈ spreadGo h w cs k f a, o ∈ x0 :: cs
  | 0, f, a, hn, hs => ⟨hn, hs⟩
  | k + 1, f, a, hn, hs => by
    unfold spreadGo
    cases f[a]? with
    | none => exact ⟨hn, hs⟩
    | some x =>
      have st := spread_step (h := h) hw (x := x) hn hs
      exact spreadGo_ok hw k _ _ st.1 st.2
theorem spread_ok (h : Nat) {w : Nat} (hw : 0 < w) (x : Int) (cs : List Int) : (spread h w x cs).Nodup ∧ ∀ o ∈ spread h w x cs, o ∈ x :: cs := spreadGo_ok hw _ _ _ (by simp) (by simp)
theorem spread_len (h : Nat) {w : Nat} (hw : 0 < w) (x : Int) (cs : List Int) : (spread h w x cs).length ≤ cs.length + 1 := nodup_sub (m := x :: cs) (spread_ok h hw x cs).1 (spread_ok h hw x cs).2
theorem restOf_len (h w : Nat) (cs : List Int) : (restOf h w cs).length ≤ h * w := by
  unfold restOf
  rw [List.length_map]
  have := List.length_filter_le (fun i : Nat => !decide ((i : Int) ∈ cs)) (List.range (h * w))
  rw [List.length_range] at this
  exact this
end Sd

/-! More mirrors: all_rings, fits, fitting_of. -/
namespace Sd
/-- the cells that a number names by its bits -/
def cellsOf (m k : Nat) : List Int := ((List.range m).filter fun (c : Nat) => decide (k / 2 ^ c % 2 = 1)).map fun (c : Nat) => (c : Int)
def ringsTo (h w i : Nat) : List (List Int) := ((List.range i).map fun j => cellsOf (h * w) (j + 1)).filter (isRing h w)
def allRings (h w : Nat) : List (List Int) := (ringsTo h w (2 ^ (h * w) - 1)).mergeSort fun p q => decide (p ≤ q)
def rowFits (row line : List Int) : Bool := !((row.zip line).any fun q => decide (0 ≤ q.1) && !decide (q.1 = q.2))
def fits (nss : List (List Int)) (cs : List Int) : Bool := (nss.zip (numbersOf nss.length (nss.headD []).length cs)).all fun p => rowFits p.1 p.2
def fittingOf (nss : List (List Int)) : List (List Int) := (allRings nss.length (nss.headD []).length).filter (fits nss)
theorem cellsOf_len (m k : Nat) : (cellsOf m k).length ≤ m := by
  unfold cellsOf
  rw [List.length_map]
  have := List.length_filter_le (fun (c : Nat) => decide (k / 2 ^ c % 2 = 1)) (List.range m)
  rw [List.length_range] at this
  exact this
theorem cellsOf_ne {m k : Nat} (h0 : 0 < k) (h1 : k < 2 ^ m) : cellsOf m k ≠ [] := by
  intro e
  unfold cellsOf at e
  have e1 := List.map_eq_nil_iff.mp e
  have all : ∀ c < m, ¬ k / 2 ^ c % 2 = 1 := fun c hc => by
    have := List.filter_eq_nil_iff.mp e1 c (List.mem_range.mpr hc)
    simpa using this
  have key : ∀ n, n ≤ m → k % 2 ^ n = 0 := by
    intro n
    induction n with
    | zero => intro _; simp [Nat.mod_one]
    | succ n ih =>
      intro hn
      have i1 := ih (by omega)
      have a := all n (by omega)
      rw [Nat.pow_succ, Nat.mod_mul, i1]
      have : k / 2 ^ n % 2 = 0 := by omega
      rw [this]
      simp
  have := key m (Nat.le_refl m)
  rw [Nat.mod_eq_of_lt h1] at this
  omega
theorem cellsOf_in {m k : Nat} : ∀ x ∈ cellsOf m k, 0 ≤ x ∧ x < (m : Int) := fun x hx => by
  unfold cellsOf at hx
  obtain ⟨c, hc, rfl⟩ := List.mem_map.mp hx
  have := List.mem_range.mp (List.mem_filter.mp hc).1
  omega
theorem cellsOf_rising (m k : Nat) : Rising (cellsOf m k) := by
  unfold Rising cellsOf
  rw [List.pairwise_map]
  exact ((List.pairwise_lt_range).filter _).imp fun h => by omega
theorem ringsTo_succ (h w i : Nat) : ringsTo h w (i + 1) = ringsTo h w i ++ if isRing h w (cellsOf (h * w) (i + 1)) = true then [cellsOf (h * w) (i + 1)] else [] := by
  unfold ringsTo
  rw [List.range_succ, List.map_append, List.filter_append]
  congr 1
  simp only [List.map_cons, List.map_nil, List.filter_cons, List.filter_nil]
theorem ringsTo_len (h w i : Nat) : (ringsTo h w i).length ≤ i := by
  unfold ringsTo
  have := List.length_filter_le (isRing h w) ((List.range i).map fun j => cellsOf (h * w) (j + 1))
  rw [List.length_map, List.length_range] at this
  exact this
theorem pow_le9 {m : Nat} (h : m ≤ 9) : 2 ^ m ≤ 512 := Nat.le_trans (Nat.pow_le_pow_right (by decide) h) (by decide)
theorem allRings_mem {h w : Nat} {cs : List Int} (hc : cs ∈ allRings h w) : ∃ k, 0 < k ∧ k < 2 ^ (h * w) ∧ cs = cellsOf (h * w) k ∧ isRing h w cs = true := by
  unfold allRings at hc
  have hc := List.mem_mergeSort.mp hc
  unfold ringsTo at hc
  obtain ⟨h1, h2⟩ := List.mem_filter.mp hc
  obtain ⟨j, hj, rfl⟩ := List.mem_map.mp h1
  have := List.mem_range.mp hj
  exact ⟨j + 1, by omega, by omega, rfl, h2⟩
theorem allRings_len (h w : Nat) (hm : h * w ≤ 9) : (allRings h w).length ≤ 512 := by
  unfold allRings
  rw [List.length_mergeSort]
  have := ringsTo_len h w (2 ^ (h * w) - 1)
  have := pow_le9 hm
  omega
theorem allRings_ok {h w : Nat} {cs : List Int} (hc : cs ∈ allRings h w) : COk h w cs := by
  obtain ⟨k, h0, h1, rfl, _⟩ := allRings_mem hc
  refine ⟨cellsOf_ne h0 h1, fun x hx => ?_, cellsOf_rising _ _⟩
  have := cellsOf_in x hx
  rw [Int.natCast_mul] at this
  exact this
end Sd

/-! More mirrors: side_ahead, walk. -/
namespace Sd
def inCell (h w : Nat) (cs : List Int) (r c : Int) : Bool := (decide (0 ≤ r) && decide (r < (h : Int))) && ((decide (0 ≤ c) && decide (c < (w : Int))) && decide (r * (w : Int) + c ∈ cs))
def pairOf (r c : Int) : Nat → (Int × Int) × (Int × Int)
  | 0 => ((r - 1, c), (r, c))
  | 1 => ((r, c), (r, c - 1))
  | 2 => ((r, c - 1), (r - 1, c - 1))
  | _ => ((r - 1, c - 1), (r - 1, c))
def sideAhead (h w : Nat) (cs : List Int) (r c : Int) (t : Nat) : Bool := inCell h w cs (pairOf r c t).1.1 (pairOf r c t).1.2 != inCell h w cs (pairOf r c t).2.1 (pairOf r c t).2.2
def stepOf : Nat → Int × Int
  | 0 => (0, 1)
  | 1 => (1, 0)
  | 2 => (0, -1)
  | _ => (-1, 0)
def ways (h w : Nat) (cs : List Int) (r c : Int) (t : Nat) : List Nat := (List.range 4).filter fun y => !decide (y = (t + 2) % 4) && sideAhead h w cs r c y
def walkGo (h w : Nat) (cs : List Int) (fr fc : Int) : Nat → List (Int × Int) → Nat → Int → Int → Option (List (Int × Int))
  | 0, _, _, _, _ => none
  | k + 1, f, t, r, c =>
    if r = fr ∧ c = fc then some f
    else match ways h w cs r c t with
      | [] => none
      | y :: _ => walkGo h w cs fr fc k (f ++ [(r, c)]) y (r + (stepOf y).1) (c + (stepOf y).2)
def walkOf (h w : Nat) (cs : List Int) : Option (List (Int × Int)) :=
  walkGo h w cs (cs.headD 0 / (w : Int)) (cs.headD 0 % (w : Int)) 200 [(cs.headD 0 / (w : Int), cs.headD 0 % (w : Int))] 0 (cs.headD 0 / (w : Int)) (cs.headD 0 % (w : Int) + 1)
theorem ways_lt {h w : Nat} {cs : List Int} {r c : Int} {t y : Nat} (hy : y ∈ ways h w cs r c t) : y < 4 := List.mem_range.mp (List.mem_filter.mp hy).1
end Sd

/-! what goes on in an except suite: isinstance of the caught error, any of bools -/
namespace Sd
open PySem PySem.Spec PyProof.Rows L2
/-- isinstance(e, c), e the exception that the suite holds, of whatever own class -/
def rIsX (K : PySem.W.Frag) (cls : Value) (d : Option Addr) (a : Addr) : List V → Hp → VK → Prop := fun xs H Q => ∃ D, cls = .ref D ∧ d = none ∧ ExcC K D ∧ rIsE K D a xs H Q
theorem call_isX {X : Cx} {a : Addr} {cls : Value} {d : Option Addr} {oe : Obj} {pn : List (Addr × Obj)} (hz : Zc cls d oe) (hf : ∃ vs, oe.data = .fields vs) : CallR (X.suite a ((a, oe) :: pn)) (.builtin "isinstance") (rIsX X.K cls d a) := by
  intro pins s σ H xs us Q I r h
  obtain ⟨D, rfl, rfl, C, h⟩ := h
  exact call_isE C hz hf pins s σ H xs us Q I r h
section
variable {prog : Program} {w : World} {A : Around} {E : Value → Shared → Prop} {s : Shared}
theorem pyNext_list_end_hot {it l x1 : Addr} {i : Nat} {items : Array Value} {Q : Option Value → Shared → Prop} (hot : HotX.HotAt A x1 s.heap) (hne : x1 ≠ it)
    (hit : s.heap.IsListIter it l i) (hl : s.heap.IsList l items) (hx : items[i]? = none)
    (hQ : ∀ h', (∀ b o, b ≠ it → s.heap.get? b = some o → h'.get? b = some o) → Q none { s with heap := h' }) : wpAny (model prog w) A (pyNext (.ref it)) Q E s := by
  obtain ⟨o, ho, hc, hd⟩ := id hit
  obtain ⟨ol, hol, _, nl, hdl⟩ := hl
  obtain ⟨hh, o1, vs1, h1, d1, c1⟩ := hot
  unfold pyNext
  refine wpAny_bind (wpAny_attempt (wpAny_callSpecial?_slot (name := Str.ofString "__next__") hit.typeIs slot_listiter_next
    (wpAny_call_entry slot_listiter_next hit.typeIs entry_listiter_next ?_ (args_listiter_next _))))
  show wpAny _ _ (field (.ref it) 0 >>= _) _ _ s
  refine wpAny_bind (wpAny_field ho hd (x := .ref l) rfl ?_)
  show wpAny _ _ (if (Value.ref l == Value.none) = true then _ else _) _ _ s
  rw [if_neg (show ¬ ((Value.ref l == Value.none) = true) from Bool.false_ne_true)]
  show wpAny _ _ (field (.ref it) 1 >>= _) _ _ s
  refine wpAny_bind (wpAny_field ho hd (x := .int i 0) rfl ?_)
  show wpAny _ _ (seqItems? (.ref l) >>= _) _ _ s
  refine wpAny_bind (wpAny_seqItems hol hdl ?_)
  simp only [Int.toNat_natCast, hx]
  refine wpAny_bind (wpAny_rule (wpAny_bind (wpAny_setField ho hd (by simp) ?_)))
  show wpAny _ _ (newExc (.type "StopIteration") [] >>= _) _ _ _
  refine wpAny_bind ?_
  simp only [newExc, newTuple]
  refine wpAny_bind (wpAny_newObj_type ?_ (by size_fits))
  refine wpAny_bind (m := firstArgMember _ _) (wpAny_of_eq (a := Value.none) (by first | rfl | (simp only [firstArgMember]; rfl)) ?_)
  refine wpAny_newObj_type ?_ (by size_fits)
  refine HotX.raiseNew_hot ⟨hh, o1, vs1, Heap.get?_push_of_some _ (Heap.get?_push_of_some _ ((Heap.get?_update_other _ _ hne.symm).trans h1)), d1, c1⟩ (Nat.ne_of_lt (Heap.lt_size (Heap.get?_push_of_some _ ((Heap.get?_update_other _ _ hne.symm).trans h1)))) (Heap.get?_push_size _ rfl) rfl (by first | (simp; done) | (simp; omega) | (simp only [Array.size_append]; simp; omega)) ?_
  refine wpAny_bind (wpAny_isInstance (T := "StopIteration") (b := true) ⟨_, Heap.get?_update_self _ (Heap.get?_push_size _ rfl) rfl, rfl⟩ isSubtype_stop ?_)
  refine wpAny_pure (hQ _ fun b o hb e => ?_)
  rw [Heap.get?_update_other _ _ (Nat.ne_of_gt (Heap.lt_size (Heap.get?_push_of_some _ ((Heap.get?_update_other _ _ hb.symm).trans e))))]
  exact Heap.get?_push_of_some _ (Heap.get?_push_of_some _ ((Heap.get?_update_other _ _ hb.symm).trans e))
end
theorem walks_list_hot {prog : Program} {w : World} {A : Around} {x1 : Addr} (I ax : Addr) (hne : ax ≠ I) (hx : x1 ≠ I) (items : Array Value) :
    Walks prog w A I [I, ax, x1] [I] items.size (fun i v => items[i]? = some v) (fun i h => h.IsListIter I ax i ∧ h.IsList ax items ∧ HotX.HotAt A x1 h) where
  sub := fun b hb => by simp at hb; simp [hb]
  frame := fun _ _ _ st hk => ⟨st.1.at fun o e => hk I (by simp) o e, st.2.1.at fun o e => hk ax (by simp) o e, by
    obtain ⟨hh, o1, vs1, h1, d1, c1⟩ := st.2.2
    exact ⟨hh, o1, vs1, hk x1 (by simp) _ h1, d1, c1⟩⟩
  item := fun i s Q E hi st hQ => by
    refine wpAny_pyNext_list_item st.1 st.2.1 (x := items[i]) (by simp [hi]) fun h' hit' hs' => ?_
    refine hQ _ h' s.toks (by simp [hi]) ⟨hit', st.2.1.extBut hs'.extBut hne, ?_⟩ fun b o hb e => hs'.extBut b o (fun h => hb (by simp [h])) e
    obtain ⟨hh, o1, vs1, h1, d1, c1⟩ := st.2.2
    exact ⟨hh, o1, vs1, hs'.extBut x1 _ hx h1, d1, c1⟩
  done := fun s Q E st hQ => pyNext_list_end_hot st.2.2 hx st.1 st.2.1 (by simp) fun h' he' => hQ h' s.toks fun b o hb e => he' b o (fun h => hb (by simp [h])) e
  self := fun _ _ _ _ st hQ => wpAny_pyIter_listiter st.1 hQ
/-- any(xs) of bools, while an exception is handled -/
theorem cr_anyH {X : Cx} (hc : L2H.HotC X) : CallR X (.builtin "any") (rAny X.K) := by
  intro pins s σ H vs us Q I r h
  obtain ⟨a, bs, rfl, hs, q⟩ := h
  obtain ⟨its, rv, hl, _⟩ := I.list hs
  rw [Vals.ref1 r]
  have hb := rv.bls
  obtain ⟨x1, hot⟩ := hc.at I
  refine call_any_walk (iter_any hl.isList fun s₂ e2 st hne => ?_)
  subst e2
  have hx : x1 ≠ s.heap.objs.size := by
    obtain ⟨_, _, _, e, _⟩ := hot
    exact Nat.ne_of_lt (Heap.lt_size e)
  refine ⟨_, _, _, _, _, _, _, rfl, walks_list_hot (A := X.A.in1) (x1 := x1) _ a hne hx its.toArray, ⟨st.1, st.2, ?_⟩, truth_bools hb, fun h' tk hk => ?_⟩
  · obtain ⟨hh, o1, vs1, h1, d1, c1⟩ := hot
    exact ⟨hh, o1, vs1, Heap.get?_push_of_some _ h1, d1, c1⟩
  refine ⟨.bl _, H, I.kept fun b o eo => hk b o (fun hmem => ?_) (Heap.get?_push_of_some _ eo), ?_, q⟩
  · rcases List.mem_cons.mp hmem with e1 | hmem
    · exact absurd (e1 ▸ Heap.lt_size eo) (Nat.lt_irrefl _)
    · cases hmem
  · show Value.bool _ = Value.bool _
    rw [← L2.any_range, hb, List.size_toArray, List.length_map]
theorem hotC_suite {X : Cx} {a : Addr} {oe : Obj} {pn : List (Addr × Obj)} {cls : Value} {d : Option Addr} (hz : L2N.Zn cls d oe) (hf : ∃ vs, oe.data = .fields vs) : L2H.HotC (X.suite a ((a, oe) :: pn)) := by
  obtain ⟨vs, hv⟩ := hf
  exact ⟨(a, oe), ⟨rfl, vs, hv, hz.2.2 vs hv⟩, List.mem_cons_self⟩
/-- try: tb / except c as i: ts; nothing else is let out -/
def tTry (K : PySem.W.Frag) (c : Value) (i : Nat) (tb : WX → TS) (ts : Addr → Value → Option Addr → TS) : TS := fun D σ H => tb (wAs K c i ts (fun _ _ _ _ => False) D) D σ H
theorem takes0N {X : Cx} : L2N.Takes X (fun _ _ _ _ => False) := fun _ _ x => by
  obtain ⟨_, _, _, _, _, _, _, _, _, _, _, _, _, _, _, _, z⟩ := x
  exact z.elim
theorem ps_tryN {X : Cx} {x n : Str} {c : Value} {i : Nat} {body suite : List Stmt} {b₀ : Stmt} {np pos pos' : Pos} {tb : WX → TS} {ts : Addr → Value → Option Addr → TS} (hs : X.stack = X.env :: X.outer) (hf : X.env.frame = some X.env.locals) (hN : X.N.Nodup) (hi : X.N[i]? = some n) (hln : X.env.kindOf n = some .local) (hg : Gl X x) (hdb : (x == ("__debug__" : Str)) = false) (hm : X.mg x = some c)
    (hb : ∀ (W : WX) (pn : List (Addr × Obj)) (xe : Value → Shared → Prop), L2N.Takes (X.tr pn xe) W → PassesOwn (model X.prog X.w) X.A X.env xe → PSs (X.tr pn xe) body (tb W))
    (hsu : ∀ (a : Addr) (oe : Obj) (cls : Value) (d : Option Addr) (pn : List (Addr × Obj)), L2N.Zn cls d oe → (∃ vs, oe.data = .fields vs) → PSs (X.suite a ((a, oe) :: pn)) (b₀ :: suite) (ts a cls d)) :
    PS X (.Try body [.ExceptHandler (some (.Name x np)) (some n) (b₀ :: suite) pos'] [] [] pos) (tTry X.K c i tb ts) :=
  L2N.ps_try_as hs hf hN hi hln ⟨hg, hdb, .inl hm⟩ takes0N hb hsu
theorem passN {X : Cx} : Passes (L2N.CX X.prog X.w) X E0 := fun _ _ _ _ _ _ _ h => by
  obtain ⟨_, _, _, _, _, _, _, _, _, _, _, _, z⟩ := h
  exact z.elim
section
variable {P : Program} {w : World} {K : PySem.W.Frag} {mg : Str → Option Value} {base : Heap}
/-- as Fun.ok, for a def that may raise; the raised error's context is None -/
theorem Fun.okN {x qual : Str} {st : Stmt} {f : Addr} {fd : FuncData} {N ps : List Str} {k : Nat} {sp : Sp} (F : Fun K x qual st f fd) (S : FnScope N ps (defScope st)) (len : ∀ vs H Q E, sp vs H Q E → vs.length = ps.length)
    (hbody : ∀ (cdv : Value) (A : Around) (outer : List Env) (s : Shared) (H : Hp) (vs : List V) (Q : VK) (E : XK), Room k (A.deeper (envOfC qual (defScope st) s.heap.objs.size f cdv)) → sp vs H Q E →
      ∃ t, PSs (cxOf (L2N.CX P w) P w K mg base N qual (defScope st) f cdv A outer s H E) (defBody st) t ∧ t { nx := fun _ H' => Q .non H', rt := Q } (start N vs) H) : FnOk P w K mg base (L2N.CX P w) (k + 1) f fd ps sp := by
  obtain ⟨oc, od, kV, doc, pm, an, cdv, ct, osl, rfl, lk, hcd⟩ := F.ex
  exact fn_of lk hcd S len fun A outer s H vs Q E hr hsp => hbody cdv A outer s H vs Q E hr hsp
end
end Sd

/-! defs called within an except suite with the caught error; a comprehension there; defs held in a slot -/
namespace L2H
open PySem PySem.Spec PyProof.Rows L2 HotX
theorem RoomH.units {k : Nat} {A : Around} (r : RoomH k A) : A.units + 64 < cLine := by have := r.un; omega
end L2H
namespace Sd
open PySem PySem.Spec PyProof.Rows L2 HotX L2H
/-- isinstance(e, c), e the handled exception, pinned -/
theorem call_isP {X : Cx} {a : Addr} {cls : Value} {d : Option Addr} {oe : Obj} (hp : (a, oe) ∈ X.pn) (hz : Zc cls d oe) (hf : ∃ vs, oe.data = .fields vs) : CallR X (.builtin "isinstance") (rIsX X.K cls d a) := by
  intro pins s σ H xs us Q I r h
  obtain ⟨D, rfl, rfl, C, c, cv, b, rfl, hcv, e, q⟩ := h
  cases r with
  | cons rx rr =>
    cases rr with
    | cons rt rr =>
      cases rr
      cases rx
      have ec := hcv _ rt
      subst ec
      obtain ⟨hget, _⟩ := I.pin (a, oe) (List.mem_append.mpr (.inl hp))
      obtain ⟨vs, hv⟩ := hf
      have J : PySem.W.InstAt s.heap a oe D none := by
        obtain ⟨oc, od, oda, osl⟩ := oe
        obtain ⟨h1, h2⟩ := hz
        dsimp only at h1 h2 hv
        subst h1 h2 hv
        exact ⟨hget, rfl, rfl, trivial⟩
      exact PySem.W.kia_one (PySem.W.handS_kitx_exc C.hg C.hk C.hs C.hd C.ha C.hn C.ht C.hm) I.kIn J e (fun z => nomatch z) fun tk => ⟨.bl b, H, I.kept (t' := tk) fun _ _ z => z, rfl, q⟩
/-! ### a def that may be called with the handled exception -/
structure FnHP (P : Program) (w : World) (K : PySem.W.Frag) (mg : Str → Option Value) (base : Heap) (CX : CXT) (k : Nat) (f : Addr) (fd : FuncData) (ps : List Str) (sp : Addr → Value → Option Addr → Sp) : Prop where
  len : ∀ a c d vs H Q E, sp a c d vs H Q E → vs.length = ps.length
  run : ∀ (A : Around) (outer : List Env) (s : Shared) (H : Hp) (args : Args) (us : List Value) (vs : List V) (Q : VK) (E : XK) (p : Addr × Obj) (cls : Value) (d : Option Addr), RoomH k A → Hot1 A p → L2N.Zn cls d p.2 → PinOk outer H s p → Env0 P w K mg base A outer s H → BindsTo s fd args (ps.zip us) → Vals vs us → sp p.1 cls d vs H Q E →
    codeAny (model P w) A (.call (.ref f) args) (CR CX outer P w H s Q E) s
theorem fn_ofHP {CX : CXT} {P : Program} {w : World} {K : PySem.W.Frag} {mg : Str → Option Value} {base : Heap} {k : Nat} {f : Addr} {name qual : Str} {params : Arguments} {body : List Stmt} {scope : Scope} {dV kV doc pm cdv ct oc : Value} {an od : Option Addr}
    {osl : Array (Option Value)} {N ps : List Str} {sp : Addr → Value → Option Addr → Sp} (lk : K.lookup f = some ⟨oc, od, .func (PySem.W.fnOf name qual params body scope dV kV doc pm an cdv ct), osl⟩) (hcd : PySem.W.codeIn K cdv qual = true) (S : FnScope N ps scope)
    (len : ∀ a c d vs H Q E, sp a c d vs H Q E → vs.length = ps.length)
    (hbody : ∀ (A : Around) (outer : List Env) (s : Shared) (H : Hp) (vs : List V) (Q : VK) (E : XK) (p : Addr × Obj) (cls : Value) (d : Option Addr), Hot1 A p → L2N.Zn cls d p.2 → RoomH k (A.deeper (envOfC qual scope s.heap.objs.size f cdv)) → sp p.1 cls d vs H Q E →
      ∃ t, PSs (cxH CX P w K mg base N qual scope f cdv A outer s H E p) body t ∧ t { nx := fun _ H' => Q .non H', rt := Q } (L2.start N vs) H) :
    FnHP P w K mg base CX (k + 1) f (PySem.W.fnOf name qual params body scope dV kV doc pm an cdv ct) ps sp := by
  refine ⟨len, fun A outer s H args us vs Q E p cls d hr hot hz hpin e0 hb r hsp => ?_⟩
  have hl := len _ _ _ _ _ _ _ hsp
  have KX : K.In s.heap := e0.mod.kin.keeps fun b o e => (e0.bs b o e).1
  have lim : s.heap.NoLimit := e0.mod.nolimit.keeps fun b o e => (e0.bs b o e).1
  have hkind : ∀ y ∈ ps.zip us, scope.names.lookup y.1 = some .local ∨ (scope.names.lookup y.1 = some .cell ∧ ((cellsFrom (s.heap.objs.size + 1) scope.names []).lookup y.1).isSome = true) := fun ⟨n, v⟩ hy => by
    rcases S.par n (List.of_mem_zip hy).1 with q | q
    · exact .inl q
    · exact .inr ⟨q, PySem.W.cellsFrom_some _ _ _ (.inl q)⟩
  refine codeAny_call_function hr.depth (KX _ _ lk) rfl S.co S.gen rfl (PySem.W.codeRec_of KX hcd) (hb _ _ _ _ ?_)
  refine wpAny_newFunctionEnv_cells S.kind hkind fun env he s1 x => ?_
  subst he
  refine ⟨lim.keeps x.toInCall.keep, codeAny_func ?_⟩
  obtain ⟨t, ht, hq⟩ := hbody A outer s H vs Q E p cls d hot hz (hr.deeper _) hsp
  have I : Inv (cxH CX P w K mg base N qual scope f cdv A outer s H E p) [] (L2.start N vs) H s1 := inv_startH S hpin e0 hl r x
  refine wpAny_mono (ht.run [] s1 (L2.start N vs) H _ I hq) (fun fl s' hs => ?_) fun e s' hs => hs
  have fin : ∀ {σ' : L2.St} {H' : Hp} {v : V} {u : Value}, Inv (cxH CX P w K mg base N qual scope f cdv A outer s H E p) [] σ' H' s' → RelV v u → Q v H' → CE outer P w H s Q u s' :=
    fun {σ' H' v u} J rv q => ⟨v, H', J.os, J.bare, J.base, J.hok, rv, q⟩
  cases fl with
  | ret u =>
    obtain ⟨v, σ', H', J, rv, q⟩ := hs
    exact fin J rv q
  | next =>
    obtain ⟨σ', H', J, q⟩ := hs
    exact fin (v := V.non) (u := Value.none) J rfl q
  | brk =>
    obtain ⟨_, _, _, q⟩ := hs
    exact False.elim q
  | cont =>
    obtain ⟨_, _, _, q⟩ := hs
    exact False.elim q
theorem Fun.okHP {P : Program} {w : World} {K : PySem.W.Frag} {mg : Str → Option Value} {base : Heap} {x qual : Str} {st : Stmt} {f : Addr} {fd : FuncData} {N ps : List Str} {k : Nat} {sp : Addr → Value → Option Addr → Sp} (F : Fun K x qual st f fd) (S : FnScope N ps (defScope st)) (len : ∀ a c d vs H Q E, sp a c d vs H Q E → vs.length = ps.length)
    (hbody : ∀ (cdv : Value) (A : Around) (outer : List Env) (s : Shared) (H : Hp) (vs : List V) (Q : VK) (E : XK) (p : Addr × Obj) (cls : Value) (d : Option Addr), Hot1 A p → L2N.Zn cls d p.2 → RoomH k (A.deeper (envOfC qual (defScope st) s.heap.objs.size f cdv)) → sp p.1 cls d vs H Q E →
      ∃ t, PSs (cxH CX0 P w K mg base N qual (defScope st) f cdv A outer s H E p) (defBody st) t ∧ t { nx := fun _ H' => Q .non H', rt := Q } (L2.start N vs) H) : FnHP P w K mg base CX0 (k + 1) f fd ps sp := by
  obtain ⟨oc, od, kV, doc, pm, an, cdv, ct, osl, rfl, lk, hcd⟩ := F.ex
  exact fn_ofHP lk hcd S len fun A outer s H vs Q E p cls d hot hz hr hsp => hbody cdv A outer s H vs Q E p cls d hot hz hr hsp
section
variable {X : Cx} {CX : CXT} {k : Nat} {f : Addr} {fd : FuncData} {ps : List Str} {spH : Addr → Value → Option Addr → Sp} {x : Str} {q pos : Pos} {e : Expr} {es : List Expr} {t : TA}
theorem pe_callHP {a : Addr} {oe : Obj} {cls : Value} {d : Option Addr} (F : FnHP X.prog X.w X.K X.mg X.base CX0 k f fd ps spH) (hr : RoomH k X.A) (hot : Hot1 X.A (a, oe)) (hz : L2N.Zn cls d oe) (hp : (a, oe) ∈ X.pn) (hg : Gl X x) (hm : X.mg x = some (.ref f)) (hk : PySem.W.keepIn X.K (.ref f) = true) (hb : Binds X.K fd ps [])
    (ha : PA X (e :: es) t) (hdb : (x == ("__debug__" : Str)) = false := by decide) (he : starEach (e :: es) X.env = (false, eval e X.env) :: starEach es X.env := by rfl) (hpl : (backTo pos (starEach es X.env)).any (·.1) = false := by rfl) :
    PE X (.Call (.Name x q) (e :: es) [] pos) (tCall (spH a cls d) [] E0 t) := by
  refine ⟨fun pins s σ H Q I h => ?_⟩
  refine wpAny_Call_Name_kw (ld_glob I hg hm ?_ hdb)
  refine PySem.W.callWith_K (h₀ := X.base) I.ok.mod.kin hk (thn (ha.run pos pins s σ H _ I h) fun us s1 ⟨vs, H1, I1, r, q⟩ => ⟨I1.kIn, ?_⟩) he hpl
  have q' : spH a cls d vs H1 Q E0 := by
    have z : spH a cls d (vs ++ []) H1 Q E0 := q
    rw [List.append_nil] at z
    exact z
  have hl : us.length = ps.length := by rw [← r.length]; exact F.len _ _ _ _ _ _ _ q'
  have b := hb s1 us I1.kIn (by rw [List.append_nil]; exact hl)
  rw [List.append_nil] at b
  have P1 := I1.pin (a, oe) (List.mem_append_left _ hp)
  have hpin : PinOk X.stack H1 s1 (a, oe) := ⟨P1.1, P1.2.1, fun hm => (List.mem_cons.mp (I1.stkSub a hm)).elim P1.2.2.1 P1.2.2.2.1, P1.2.2.2.2⟩
  refine wpAny_call (codeAny_mono (F.run X.A X.stack s1 H1 ⟨us, []⟩ us vs Q E0 (a, oe) cls d hr hot hz hpin I1.env0 b r q') fun r s' hq => ?_)
  cases r with
  | error e => exact False.elim hq
  | ok fl =>
    cases fl with
    | ret u => exact I1.after hq
    | next => exact False.elim hq
    | brk => exact False.elim hq
    | cont => exact False.elim hq
/-! ### defs held in a slot -/
/-- the slot's def, of those that R knows -/
def tCallR (i : Nat) (R : Addr → Sp → Prop) (E : L2.St → XK) (t : TA) : TE := fun σ H Q => ∃ f sp, σ[i]? = some (some (.ref f)) ∧ R f sp ∧ t σ H fun vs H1 => sp vs H1 Q (E σ)
structure HeldR (P : Program) (w : World) (K : PySem.W.Frag) (mg : Str → Option Value) (base : Heap) (CX : CXT) (k : Nat) (f : Addr) (sp : Sp) : Prop where
  ex : ∃ (fd : FuncData) (ps : List Str), FnOk P w K mg base CX k f fd ps sp ∧ PySem.W.keepIn K (.ref f) = true ∧ Binds K fd ps []
theorem pe_callR {i : Nat} {R : Addr → Sp → Prop} {E : L2.St → XK} (A : ∀ f sp, R f sp → HeldR X.prog X.w X.K X.mg X.base CX k f sp) (hr : Room k X.A) (hN : X.N[i]? = some x) (hv : Vis X.env.scope x) (hx : ∀ σ, PassesAt CX X σ (E σ)) (ha : PA X (e :: es) t)
    (hdb : (x == ("__debug__" : Str)) = false := by decide) (hcd : (x == ("__classdict__" : Str)) = false := by decide)
    (he : starEach (e :: es) X.env = (false, eval e X.env) :: starEach es X.env := by rfl) (hpl : (backTo pos (starEach es X.env)).any (·.1) = false := by rfl) : PE X (.Call (.Name x q) (e :: es) [] pos) (tCallR i R E t) := by
  refine ⟨fun pins s σ H Q I h => ?_⟩
  obtain ⟨f, sp, hs, hS, ht⟩ := h
  obtain ⟨fd, ps, F, hk, hb⟩ := (A f sp hS).ex
  refine wpAny_Call_Name_kw (thn ((pe_var (pos := q) hN hv hdb hcd).run pins s σ H (fun v H1 => v = .ref f ∧ H1 = H) I ⟨.ref f, hs, rfl, rfl⟩) fun u s1 ⟨v, H1, I1, r1, q1⟩ => ?_)
  obtain ⟨rfl, rfl⟩ := q1
  cases r1
  refine PySem.W.callWith_K (h₀ := X.base) I.ok.mod.kin hk (thn (ha.run pos pins s1 σ _ _ I1 ht) fun us s2 ⟨vs, H2, I2, r, q⟩ => ⟨I2.kIn, ?_⟩) he hpl
  exact run_fnS F hr hb (hx σ) I2 r q
end
/-! ### [.. for .. in range(..)] while an exception is handled (as the kit's own for a calm context) -/
theorem lc_coreH {X : Cx} {pins : List (Addr × Obj)} {s : Shared} {σ : L2.St} {H : Hp} {Q : VK} {elt tg iter : Expr} {ifs : List Expr} {scope : Scope} {own : List (Str × Nat)} {pos pos' : Pos} {wi : TI} {g : TG} {tt : TT} {te : TE} {use : Option (Value → Sem Unit)} {Qf : Value → Shared → Prop}
    (hc : HotC X) (hN : X.N.Nodup) (I : Inv X pins σ H s) (hi : PIH X tg iter wi) (ok : BlkOk X.N X.env.scope scope own)
    (hg : ∀ (s : Shared) (H : Hp) (C : Addr) (cl : List (Str × Addr)) (fp : List Addr), PG (X.blk s H scope (compEnvC scope cl C X.env) fp) tg g) (ht : ∀ (s : Shared) (H : Hp) (C : Addr) (cl : List (Str × Addr)) (fp : List Addr), PTs (X.blk s H scope (compEnvC scope cl C X.env) fp) ifs tt)
    (he : ∀ (s : Shared) (H : Hp) (C : Addr) (cl : List (Str × Addr)) (fp : List Addr), PE (X.blk s H scope (compEnvC scope cl C X.env) fp) elt te) (hs : ∀ x, foldedSetIterable iter X.env x = pure x)
    (h : tLc wi g tt te (own.map (·.2)) σ H Q)
    (hRR : ∀ D C s' m H', Inv X pins σ H' s' → Q (.ref D) H' → s'.heap.Ns C m → FpOk X pins H' C → compPost (model X.prog X.w) X.A X.xe use Qf (.ref D) C (.ok .next) s') :
    wpAny (model X.prog X.w) X.A (comprehension (.ListComp elt [⟨tg, iter, ifs, 0⟩] scope pos) scope X.env pos' (newList []) false (eval iter X.env) use) Qf X.xe s := by
  have hfree : ∀ y ∈ scope.names, y.2 = .free → ∃ c, X.env.cells.lookup y.1 = some c := fun y hy e => by
    rcases ok.free y hy e with k | k
    · exact I.ok.has _ (.inl k)
    · exact I.ok.has _ (.inr k)
  refine wpAny_comprehension_free (use := use) rfl hs (closure_ok hfree) ok.kind (fun y hy e => by rw [ok.uniq y hy, e])
    (thn (hi.run pins s σ H _ I h) fun xv s1 hx => thn hx fun itv s2 h2 => ?_)
  obtain ⟨it, fp, tn, J, H2, e, I2, T, st2, f2, q⟩ := h2
  subst e
  refine wpAny_newObj_type (newEnv_comp ?_) (by show 0 ≤ sizeLine; decide)
  generalize hD : s2.heap.objs.size = D
  have hDn : H2 D = none := I2.hok.fresh (Nat.le_of_eq hD)
  obtain ⟨W, ⟨m0, w0⟩, turn⟩ := q D hDn
  -- the new list
  generalize hs3 : ({ s2 with heap := s2.heap.push { cls := .type "list", data := .seq ([] : List Value).toArray } } : Shared) = s3
  have I3 : Inv X pins σ (upd H2 D (.lst [])) s3 := by
    rw [← hs3]
    refine I2.laid (t' := s2.toks) (fun b o e => Heap.get?_push_of_some _ e) (Nat.le_of_eq hD) ⟨Nat.zero_le _, [], 0, .nil, ?_⟩
    rw [← hD]
    exact Heap.get?_push_size _ rfl
  have h3 : s3.heap = s2.heap.push { cls := .type "list", data := .seq ([] : List Value).toArray } := by rw [← hs3]
  have sz : ∀ b ∈ fp, b < s2.heap.objs.size := fun b hb => by
    obtain ⟨o, e, _⟩ := T.obj _ _ st2 b hb
    exact Heap.lt_size e
  have f3 : ∀ b ∈ fp, FpOk X pins (upd H2 D (.lst [])) b ∧ b < s3.heap.objs.size := fun b hb => by
    have hlt := sz b hb
    refine ⟨⟨?_, (f2 b hb).2⟩, by rw [h3, Heap.size_push]; exact Nat.lt_succ_of_lt hlt⟩
    rw [upd_ne (by rw [← hD]; exact Nat.ne_of_lt hlt)]
    exact (f2 b hb).1
  have st3 : tn 0 s3.heap := T.keep _ _ _ st2 fun b _ o e => by rw [h3]; exact Heap.get?_push_of_some _ e
  have I4 := block_start I3 ok hN f3
  obtain ⟨pp, hot, hpp⟩ := hc
  have P3 := I3.pin pp (List.mem_append_left _ hpp)
  have npp : ∀ b ∈ fp, pp.1 ≠ b := fun b hb => (f3 b hb).1.2.2.2.2.2 pp (List.mem_append_left _ hpp)
  have pg := hg s3 (upd H2 D (.lst [])) s3.heap.objs.size (cellsFrom (s3.heap.objs.size + 1) scope.names (cloFrom X.env.cells scope.names [])) fp
  have pt := ht s3 (upd H2 D (.lst [])) s3.heap.objs.size (cellsFrom (s3.heap.objs.size + 1) scope.names (cloFrom X.env.cells scope.names [])) fp
  have pe := he s3 (upd H2 D (.lst [])) s3.heap.objs.size (cellsFrom (s3.heap.objs.size + 1) scope.names (cloFrom X.env.cells scope.names [])) fp
  show codeAny _ _ (.compStart (.ListComp elt [⟨tg, iter, ifs, 0⟩] scope pos) 0 (.ref it) (.ref D) (compEnvC scope (cellsFrom (s3.heap.objs.size + 1) scope.names (cloFrom X.env.cells scope.names [])) s3.heap.objs.size X.env)) (compPost (model X.prog X.w) X.A X.xe use Qf (.ref D) s3.heap.objs.size) { s3 with heap := pushCells (s3.heap.push { cls := .type "dict", data := .dict #[] }) scope.names }
  have nfp : ∀ b ∈ fp, (upd H2 D (.lst [])) b = none := fun b hb => (f3 b hb).1.1
  generalize hce : compEnvC scope (cellsFrom (s3.heap.objs.size + 1) scope.names (cloFrom X.env.cells scope.names [])) s3.heap.objs.size X.env = ce at I4 pg pt pe ⊢
  have cL : ce.locals = s3.heap.objs.size := by subst hce; rfl
  generalize hH3 : upd H2 D (.lst []) = H3 at I3 I4 pg pt pe w0 nfp f3 P3
  generalize hs4 : ({ s3 with heap := pushCells (s3.heap.push { cls := .type "dict", data := .dict #[] }) scope.names } : Shared) = s4 at I4 ⊢
  have st4 : tn 0 s4.heap := T.keep _ _ _ st3 fun b _ o e => by rw [← hs4]; exact pushCells_keeps _ _ _ _ (Heap.get?_push_of_some _ e)
  have I4 : Inv (X.blk s3 H3 scope ce fp) [pp] (wipe σ (own.map (·.2))) H3 s4 := I4.pins_of fun q hq => by
    have eq : q = pp := by simpa using hq
    rw [eq]
    refine ⟨by rw [← hs4]; exact pushCells_keeps _ _ _ _ (Heap.get?_push_of_some _ P3.1), P3.2.1, ?_, fun hm => (List.mem_cons.mp (I3.stkSub pp.1 hm)).elim P3.2.2.1 P3.2.2.2.1, P3.2.2.2.2⟩
    show pp.1 ≠ ce.locals
    rw [cL]
    exact Nat.ne_of_lt (Heap.lt_size P3.1)
  have stat : ∀ {σ' : L2.St} {H' : Hp} {s' : Shared}, Inv (X.blk s3 H3 scope ce fp) [pp] σ' H' s' → (∀ b ∈ fp, H' b = none) → ∀ b ∈ fp, FpOk (X.blk s3 H3 scope ce fp) [pp] H' b := fun {σ' H' s'} I' hn b hb =>
    ⟨hn b hb, (I'.ok.exf b hb).1, I'.ok.exfs b hb, .inl hb, fun x c e => (I'.ok.exf b hb).2 x c e, fun p hp => by
      have eq : p = pp := by simpa using (show p ∈ ([] : List (Addr × Obj)) ++ [pp] from hp)
      rw [eq]
      exact npp b hb⟩
  have toH : ∀ {σ' : L2.St} {H' : Hp} {s' : Shared}, Inv (X.blk s3 H3 scope ce fp) [pp] σ' H' s' → Inv { X.blk s3 H3 scope ce fp with pn := [pp] } [] σ' H' s' := fun {σ' H' s'} J =>
    ⟨⟨J.ok.mod, J.ok.kind, J.ok.glob, J.ok.blt, J.ok.above, J.ok.inj, J.ok.has, J.ok.cab, J.ok.hd, J.ok.frames, J.ok.stk, J.ok.exf, J.ok.bs, J.ok.bsz, J.ok.noex, J.ok.exfs, J.ok.funs, J.ok.frf⟩, J.os, J.bare, J.base, J.loc, J.cell, J.free, J.freeC, J.pin, J.hok, J.len⟩
  have ofH : ∀ {σ' : L2.St} {H' : Hp} {s' : Shared}, Inv { X.blk s3 H3 scope ce fp with pn := [pp] } [] σ' H' s' → Inv (X.blk s3 H3 scope ce fp) [pp] σ' H' s' := fun {σ' H' s'} J =>
    ⟨⟨J.ok.mod, J.ok.kind, J.ok.glob, J.ok.blt, J.ok.above, J.ok.inj, J.ok.has, J.ok.cab, J.ok.hd, J.ok.frames, J.ok.stk, J.ok.exf, J.ok.bs, J.ok.bsz, J.ok.noex, J.ok.exfs, J.ok.funs, J.ok.frf⟩, J.os, J.bare, J.base, J.loc, J.cell, J.free, J.freeC, J.pin, J.hok, J.len⟩
  have hcB : HotC { X.blk s3 H3 scope ce fp with pn := [pp] } := ⟨pp, hot, List.mem_cons_self⟩
  have loop : codeAny (model X.prog X.w) X.A (.compLoop (.ListComp elt [⟨tg, iter, ifs, 0⟩] scope pos) 0 (.ref it) (.ref D) ce) (compPost (model X.prog X.w) X.A X.xe use Qf (.ref D) s3.heap.objs.size) s4 := by
    refine compLoop_any (fun n s' => ∃ i H', Inv (X.blk s3 H3 scope ce fp) [pp] (wipe σ (own.map (·.2))) H' s' ∧ tn i s'.heap ∧ (∀ b ∈ fp, H' b = none) ∧ W i n H') ?_ m0 ⟨0, H3, I4, st4, nfp, w0⟩
    rintro n s5 ⟨i, H5, I5, st5, n5, w5⟩
    rcases turn i n H5 w5 with ⟨stop, qq⟩ | ⟨go, Nx, hNx, step⟩
    · have td := T.done { X.blk s3 H3 scope ce fp with pn := [pp] } rfl rfl rfl hcB i [] s5 _ H5 (fun _ _ => False) (toH I5) (stat I5 n5) st5 stop
      refine thnF td fun r s6 ⟨hr, I6⟩ => ?_
      subst hr
      have I6 := ofH I6
      -- back in the def's context
      have I7 : Inv X pins σ H5 s6 := I3.call' (ch := fp) I6.os I6.base I6.hok I6.bare fun b hb => ⟨(f3 b hb).1.2.2.2.1, (f3 b hb).1.2.1, (f3 b hb).1.2.2.2.2.1, (f3 b hb).1.2.2.2.2.2⟩
      have nC : H5 s3.heap.objs.size = none := by
        have z : H5 ce.locals = none := I6.free
        rw [cL] at z
        exact z
      obtain ⟨m, hn, _⟩ := I6.loc
      have hn : s6.heap.Ns ce.locals m := hn
      rw [cL] at hn
      exact hRR D s3.heap.objs.size s6 m H5 I7 qq hn (I3.fpOk (Nat.le_refl _) nC)
    · have ti := T.item { X.blk s3 H3 scope ce fp with pn := [pp] } rfl rfl rfl hcB i [] s5 _ H5 (fun _ _ => False) (toH I5) (stat I5 n5) st5 go
      refine thnF ti fun r s6 ⟨u, hr, h6⟩ => ?_
      subst hr
      refine thnF h6 fun _ s7 ⟨x, H7, I7, r7, y7, st7, n7⟩ => ?_
      have I7 := ofH I7
      have I7' := I7.pinned (stat I7 n7) (T.obj _ _ st7)
      refine thnF (pg.run _ s7 _ H7 x u _ I7' r7 (step x H7 y7)) fun _ s8 ⟨σ8, H8, I8, hw8, q8⟩ => ?_
      refine thnF (pt.run _ s8 σ8 H8 _ I8 q8) fun b s9 ⟨H9, I9, q9⟩ => ?_
      -- the turn's end
      have fin : ∀ {s' : Shared} {H' : Hp}, Inv (X.blk s3 H3 scope ce fp) ([pp] ++ pinsAt fp s7.heap) σ8 H' s' → Nx H' → ∃ m, m < n ∧ ∃ i H', Inv (X.blk s3 H3 scope ce fp) [pp] (wipe σ (own.map (·.2))) H' s' ∧ tn i s'.heap ∧ (∀ b ∈ fp, H' b = none) ∧ W i m H' := fun {s' H'} I' nx => by
        obtain ⟨m', hm, w'⟩ := hNx H' nx
        have pin' : ∀ b ∈ fp, ∀ o, s7.heap.get? b = some o → s'.heap.get? b = some o ∧ H' b = none := fun b hb o e =>
          let z := I'.pin (b, o) (List.mem_append_right _ (List.mem_append_right _ (mem_pinsAt hb e)))
          ⟨z.1, z.2.1⟩
        have hl : (wipe σ (own.map (·.2))).length = σ8.length := by rw [← hw8, wipe_length]
        refine ⟨m', hm, i + 1, H', (I'.unpinned (pins := [pp])).weak hl (fun j v e => ?_), T.keep _ _ _ st7 fun b hb o e => (pin' b hb o e).1, fun b hb => ?_, w'⟩
        · rw [← hw8] at e
          exact (wipe_some e).1
        · obtain ⟨o, e, _⟩ := T.obj _ _ st7 b hb
          exact (pin' b hb o e).2
      cases b with
      | false =>
        simp only [Bool.false_eq_true, if_false] at q9 ⊢
        exact fin I9 q9
      | true =>
        simp only [if_true] at q9 ⊢
        refine thnF (pe.run _ s9 σ8 H9 _ I9 q9) fun z s10 ⟨yv, H10, I10, r10, acc, hD10, hz10, nx⟩ => ?_
        exact app_ok (X := X.blk s3 H3 scope ce fp) I10 hD10 hz10 r10 fun s11 I11 => fin I11 nx
  exact codeAny_compStart_list loop (T.self X.A 0 _ _ _ st4 loop)
theorem pe_lcH {X : Cx} {elt tg iter : Expr} {ifs : List Expr} {scope : Scope} {own : List (Str × Nat)} {pos : Pos} {wi : TI} {g : TG} {tt : TT} {te : TE} (hc : HotC X) (hN : X.N.Nodup) (hi : PIH X tg iter wi) (ok : BlkOk X.N X.env.scope scope own)
    (hg : ∀ (s : Shared) (H : Hp) (C : Addr) (cl : List (Str × Addr)) (fp : List Addr), PG (X.blk s H scope (compEnvC scope cl C X.env) fp) tg g) (ht : ∀ (s : Shared) (H : Hp) (C : Addr) (cl : List (Str × Addr)) (fp : List Addr), PTs (X.blk s H scope (compEnvC scope cl C X.env) fp) ifs tt)
    (he : ∀ (s : Shared) (H : Hp) (C : Addr) (cl : List (Str × Addr)) (fp : List Addr), PE (X.blk s H scope (compEnvC scope cl C X.env) fp) elt te) (hs : ∀ x, foldedSetIterable iter X.env x = pure x := by intro _; rfl) :
    PE X (.ListComp elt [⟨tg, iter, ifs, 0⟩] scope pos) (tLc wi g tt te (own.map (·.2))) := by
  refine ⟨fun pins s σ H Q I h => ?_⟩
  rw [eval_ListComp]
  refine lc_coreH hc hN I hi ok hg ht he hs h fun D C s' m H' I' q hn f => ⟨m, hn, fun h'' sb => ?_⟩
  obtain ⟨f0, f1, f2, f3, f4, f5⟩ := f
  exact ⟨.ref D, H', I'.turned (t' := s'.toks) (fun b o hb e => (sb.2 b hb).trans e) f0 f1 f3 f4 f5, rfl, q⟩
theorem pass0At {X : Cx} {σ : L2.St} : PassesAt CX0 X σ E0 := fun _ _ _ _ _ _ z => z.elim
theorem hot_flds {A : Around} {p : Addr × Obj} (h : Hot1 A p) : ∃ vs, p.2.data = .fields vs := let ⟨_, vs, e, _⟩ := h; ⟨vs, e⟩
theorem hot_of {X : Cx} {a : Addr} {oe : Obj} {pn : List (Addr × Obj)} {cls : Value} {d : Option Addr} (hz : L2N.Zn cls d oe) (hf : ∃ vs, oe.data = .fields vs) : Hot1 (X.suite a ((a, oe) :: pn)).A (a, oe) := by
  obtain ⟨vs, hv⟩ := hf
  exact ⟨rfl, vs, hv, hz.2.2 vs hv⟩
theorem room_suite {X : Cx} {k : Nat} {a : Addr} {pn : List (Addr × Obj)} (r : Room k X.A) : RoomH k (X.suite a pn).A := ⟨r.dp, r.un⟩
theorem kit_subT {K : PySem.W.Frag} {x : Addr} {T : String} (hm : PySem.W.kitMeta T = true) (hs : PySem.W.subIn K (.ref x) (.type T) = some true) : PySem.W.kitOne K (.ref x) (.type T) = some true := by
  unfold PySem.W.kitOne
  split
  · rfl
  · unfold PySem.W.kitCls
    dsimp only
    rw [if_pos hm]
    exact hs
end Sd

namespace Sd
open PySem L2 Evl
local macro_rules | `(tactic| walk_at "side") => `(tactic| first
  | assumption
  | rfl
  | decide
  | omega
  | (show (0 : Int) < _; omega)
  | (show (0 : Int) < _; decide)
  | exact ⟨by omega, by omega⟩
  | exact .inl ⟨by omega, by omega⟩
  | exact .inr ⟨by omega, by omega⟩
  | exact ⟨by decide, by decide, by decide⟩)
local macro_rules | `(tactic| walk_at "rv") => `(tactic| first
  | with_reducible exact rv_I0
  | ((with_reducible refine' rv_I ?rvc); (case rvc => walk_at "side"))
  | with_reducible exact rv_eq rfl
  | with_reducible exact rv_ne rfl)
local macro_rules | `(tactic| walk_at "es") => `(tactic| first
  | with_reducible assumption
  | ((with_reducible refine' es_of ?esa ?esb); (case esa => walk_at "ev"); (case esb => with_reducible assumption))
  | ((with_reducible refine' es_new ?esa); (case esa => walk_at "el")))
local macro_rules | `(tactic| walk_at "el") => `(tactic| first
  | with_reducible assumption
  | ((with_reducible refine' el_lst ?ela ?elb); (case ela => walk_at "ea"); (case elb => simp)))
local macro_rules | `(tactic| walk_at "est") => `(tactic| first
  | with_reducible assumption
  | ((with_reducible refine' est_of ?esa ?esb); (case esa => walk_at "ev"); (case esb => with_reducible assumption))
  | ((with_reducible refine' est_new (eu_tup ?esa ?esb)); (case esa => walk_at "ea"); (case esb => simp)))
local macro_rules | `(tactic| walk_at "ev") => `(tactic| first
  | ((with_reducible refine' ev_var ?eva); (case eva => rfl))
  | with_reducible exact ev_c
  | with_reducible assumption
  | ((with_reducible refine' ev_isIn ?eva ?evb); (case eva => walk_at "ev"); (case evb => walk_at "es"))
  | ((with_reducible refine' ev_notIn ?eva ?evb); (case eva => walk_at "ev"); (case evb => walk_at "es"))
  | ((with_reducible refine' ev_inT2 ?eva ?evb); (case eva => walk_at "ev"); (case evb => walk_at "est"))
  | ((with_reducible refine' ev_ixT ?eva ?evb ?evc); (case eva => walk_at "est"); (case evb => walk_at "ev"); (case evc => rfl))
  | ((with_reducible refine' ev_op ?eva ?evb ?evc); (case eva => walk_at "ev"); (case evb => walk_at "ev"); (case evc => walk_at "rv"))
  | ((with_reducible refine' ev_un ?eva ?evb); (case eva => walk_at "ev"); (case evb => exact ru_neg))
  | ((with_reducible refine' ev_chain ?eva ?evb ?evc (fun _ => ?evd) (fun _ => ?eve)); (case eva => walk_at "ev"); (case evb => walk_at "ev"); (case evc => walk_at "rv"); (case evd => walk_at "ev"); (case eve => walk_at "rv"))
  | ((with_reducible refine' ev_notV ?eva); (case eva => walk_at "ev"))
  | ((with_reducible refine' ev_andV ?eva (fun _ => ?evb)); (case eva => walk_at "ev"); (case evb => walk_at "ev"))
  | ((with_reducible refine' ev_orV ?eva (fun _ => ?evb)); (case eva => walk_at "ev"); (case evb => walk_at "ev"))
  | ((with_reducible refine' ev_lenS ?eva); (case eva => walk_at "es"))
  | ((with_reducible refine' ev_sumS ?eva); (case eva => walk_at "es")))
local macro_rules | `(tactic| walk_at "ea") => `(tactic| first
  | with_reducible exact ea_nil
  | ((with_reducible refine' ea_cons ?eaa ?eab); (case eaa => walk_at "ev"); (case eab => walk_at "ea")))
local macro_rules | `(tactic| walk_at "et") => `(tactic| first
  | with_reducible exact et_yes
  | with_reducible assumption
  | ((with_reducible refine' et_test ?eta); (case eta => walk_at "ev"))
  | ((with_reducible refine' et_B ?eta); (case eta => walk_at "ev"))
  | ((with_reducible refine' et_not ?eta); (case eta => walk_at "et"))
  | ((with_reducible refine' et_and ?eta (fun _ => ?etb)); (case eta => walk_at "et"); (case etb => walk_at "et"))
  | ((with_reducible refine' et_or ?eta (fun _ => ?etb)); (case eta => walk_at "et"); (case etb => walk_at "et")))

/-! ### is_whole -/
/-- the classes' places -/
structure Ad where
  (cBadGrid cBadCells cBadClues cNoRing cRingError cRing cSplit cHole cOne cTwo cNever cAnswer : Addr)
def RetE (c : Addr) (H : Hp) (E : XK) : Prop := ∀ H2, Ex H H2 → E (.ref c) none H2
def plainTypes : List String := ["NoneType", "bool", "int", "str", "list", "tuple", "dict"]
def isInt : V → Bool
  | .int _ => true
  | _ => false
/-- a value whose type is known -/
def Known (K : PySem.W.Frag) (H : Hp) (v : V) (n : String) : Prop := TyX K H v (.type n) ∧ n ∈ plainTypes
section
variable {K : PySem.W.Frag} {σ : L2.St} {H H' : Hp} {v : V} {n : String}
theorem TyOf.mono (e : Ex H H') {v : V} {t : Value} (h : TyOf K H v t) : TyOf K H' v t := by
  cases h with
  | non => exact .non
  | bl x => exact .bl x
  | int i => exact .int i
  | str x => exact .str x
  | flt x => exact .flt x
  | lst h => exact .lst (e _ _ h)
  | frz h => exact .frz (e _ _ h)
  | tup h => exact .tup (e _ _ h)
  | dK h => exact .dK (e _ _ h)
  | dT h => exact .dT (e _ _ h)
  | ins h a b c d f => exact .ins (e _ _ h) a b c d f
theorem TyX.mono (e : Ex H H') {v : V} {t : Value} (h : TyX K H v t) : TyX K H' v t := by
  cases h with
  | base h => exact .base (TyOf.mono e h)
  | byt b => exact .byt b
  | set h => exact .set (e _ _ h)
  | kList a b => exact .kList a b
  | kTuple a b => exact .kTuple a b
  | kDict a b => exact .kDict a b
  | fTuple h => exact .fTuple (e _ _ h)
  | fDict h => exact .fDict (e _ _ h)
theorem Known.mono (e : Ex H H') (h : Known K H v n) : Known K H' v n := ⟨TyX.mono e h.1, h.2⟩
theorem ty_list {a : Addr} {xs : List V} (h : SqL K H a xs) : TyX K H (.ref a) (.type "list") := by
  rcases h with (h | ⟨o, h⟩) | ⟨o, its, n, h, hc, _⟩
  · exact .base (.lst h)
  · exact .base (.frz h)
  · exact .kList h hc
theorem ty_tuple {a : Addr} {xs : List V} (h : SqT K H a xs) : TyX K H (.ref a) (.type "tuple") := by
  rcases h with (h | ⟨o, h⟩) | ⟨o, its, n, h, hc, _⟩
  · exact .base (.tup h)
  · exact .fTuple h
  · exact .kTuple h hc
theorem known_int (i : Int) : Known K H (.int i) "int" := ⟨.base (.int i), by decide⟩
theorem known_dp {d : PyData} (h : Dp K H v d) : ∃ n, Known K H v n := by
  cases h with
  | non => exact ⟨_, .base .non, by decide⟩
  | bl b => exact ⟨_, .base (.bl b), by decide⟩
  | int i => exact ⟨_, known_int i⟩
  | str x => exact ⟨_, .base (.str x), by decide⟩
  | lst h _ => exact ⟨_, ty_list h, by decide⟩
  | tup h _ => exact ⟨_, ty_tuple h, by decide⟩
/-- what isinstance says of the plain types -/
theorem kit_int : ∀ n ∈ plainTypes, PySem.W.kitOne K (.type n) (.type "int") = some (n == "int" || n == "bool") := by
  intro n hn
  have : kitB n "int" = some (n == "int" || n == "bool") := by
    revert n hn
    decide +kernel
  exact kit_ty this
theorem kit_bool : ∀ n ∈ plainTypes, PySem.W.kitOne K (.type n) (.type "bool") = some (n == "bool") := by
  intro n hn
  have : kitB n "bool" = some (n == "bool") := by
    revert n hn
    decide +kernel
  exact kit_ty this
theorem kit_list : ∀ n ∈ plainTypes, PySem.W.kitOne K (.type n) (.type "list") = some (n == "list") := by
  intro n hn
  have : kitB n "list" = some (n == "list") := by
    revert n hn
    decide +kernel
  exact kit_ty this
theorem kit_tuple : ∀ n ∈ plainTypes, PySem.W.kitOne K (.type n) (.type "tuple") = some (n == "tuple") := by
  intro n hn
  have : kitB n "tuple" = some (n == "tuple") := by
    revert n hn
    decide +kernel
  exact kit_ty this
theorem int_name (h : Known K H v n) : isInt v = (n == "int") := by
  obtain ⟨h, _⟩ := h
  cases h with
  | base h => cases h <;> rfl
  | kList => rfl
  | kTuple => rfl
  | kDict => rfl
  | fTuple => rfl
  | fDict => rfl
  | byt => rfl
  | set => rfl
variable {ta : TE}
theorem ev_isiInt (ha : Ev ta σ H v) (hk : Known K H v n) : Ev (tCB (rIsi K) (tCons ta (tCons (tC (.ty "int")) tNil))) σ H (.bl (n == "int" || n == "bool")) :=
  ev_isi ha ev_c (.ty "int") (fun _ e => (hk.mono e).1) (kit_int n hk.2)
theorem ev_isiBool (ha : Ev ta σ H v) (hk : Known K H v n) : Ev (tCB (rIsi K) (tCons ta (tCons (tC (.ty "bool")) tNil))) σ H (.bl (n == "bool")) :=
  ev_isi ha ev_c (.ty "bool") (fun _ e => (hk.mono e).1) (kit_bool n hk.2)
theorem ev_isiList (ha : Ev ta σ H v) (hk : Known K H v n) : Ev (tCB (rIsi K) (tCons ta (tCons (tC (.ty "list")) tNil))) σ H (.bl (n == "list")) :=
  ev_isi ha ev_c (.ty "list") (fun _ e => (hk.mono e).1) (kit_list n hk.2)
theorem ev_isiTuple (ha : Ev ta σ H v) (hk : Known K H v n) : Ev (tCB (rIsi K) (tCons ta (tCons (tC (.ty "tuple")) tNil))) σ H (.bl (n == "tuple")) :=
  ev_isi ha ev_c (.ty "tuple") (fun _ e => (hk.mono e).1) (kit_tuple n hk.2)
end
theorem whole_names : ∀ n ∈ plainTypes, ((n == "int" || n == "bool") && !(n == "bool")) = (n == "int") := by decide +kernel
def sp_is_whole (K : PySem.W.Frag) : Sp := fun vs H Q _ => ∃ v n, vs = [v] ∧ Known K H v n ∧ RetV (.bl (isInt v)) H Q
theorem ev_is_whole {K : PySem.W.Frag} {σ : L2.St} {H : Hp} {ta : TA} {E : XK} {v : V} {n : String} (ha : EvA ta σ H [v]) (hk : Known K H v n) : Ev (tCall (sp_is_whole K) [] E ta) σ H (.bl (isInt v)) := fun H1 e Q q =>
  ha H1 e _ fun H2 e2 => ⟨v, n, rfl, hk.mono (e.trans e2), fun H3 e3 => q H3 (e2.trans e3)⟩
def t_is_whole (K : PySem.W.Frag) : TS := (tRet (tAndV (tCB (rIsi K) (tCons (tVar 0) (tCons (tC (.ty "int")) tNil))) (tNotV (tCB (rIsi K) (tCons (tVar 0) (tCons (tC (.ty "bool")) tNil))))))
theorem pure_is_whole {K : PySem.W.Frag} {vs : List V} {H : Hp} {Q : VK} {E : XK} {D : Ends} (hD : D.rt = Q) (h : sp_is_whole K vs H Q E) : t_is_whole K D (start ["thing"] vs) H := by
  obtain ⟨v, n, rfl, hk, q⟩ := h
  subst hD
  refine s_ret (ev_andV (ev_isiInt (ev_var rfl) hk) (fun _ => ev_notV (ev_isiBool (ev_var rfl) hk))) fun H1 e1 => ?_
  have e : ((n == "int" || n == "bool") && !(n == "bool")) = isInt v := by
    rw [int_name hk]
    exact whole_names n hk.2
  rw [e]
  exact q H1 e1
/-! ### check_grid -/
/-- what is no grid -/
def badDim (v : V) : Prop := ∀ n, v = .int n → ¬ (1 ≤ n ∧ n ≤ 6)
def BadG (K : PySem.W.Frag) (H : Hp) (v : V) : Prop := (∃ n, Known K H v n ∧ n ≠ "tuple") ∨ ∃ a xs, v = .ref a ∧ SqT K H a xs ∧ xs.length ≤ 1000 ∧ (∀ x ∈ xs, ∃ n, Known K H x n) ∧ (xs.length ≠ 2 ∨ ∃ x ∈ xs, badDim x)
def sp_check_grid (K : PySem.W.Frag) (C : Ad) : Sp := fun vs H Q E => ∃ v, vs = [v] ∧
  ((∃ g h w, v = .ref g ∧ SqT K H g [.int ((h : Nat) : Int), .int ((w : Nat) : Int)] ∧ GOk h w ∧ RetV .non H Q) ∨ (BadG K H v ∧ RetE C.cBadGrid H E))

def t_check_grid (K : PySem.W.Frag) (C : Ad) (E : XK) : TS := (tIfS (tOr (tNot (tB (tCB (rIsi K) (tCons (tVar 0) (tCons (tC (.ty "tuple")) tNil))))) (tOr (tTest (tOp rNe (tCB (rLenS K) (tCons (tVar 0) tNil)) (tC (.int 2)))) (tNot (tB (tCB (rAll K) (tCons (tLc (iTup K (tVar 0)) (gName 1) tYes (tAndV (tCall (sp_is_whole K) [] E0 (tCons (tVar 1) tNil)) (tChain oLe oLe (tC (.int 1)) (tVar 1) (tC (.int 6)))) [1]) tNil)))))) (tRaise E (.ref C.cBadGrid)) tNext)
theorem known_grid {K : PySem.W.Frag} {H : Hp} {h w : Int} : ∀ x ∈ [V.int h, V.int w], ∃ n, Known K H x n := fun x hx => by
  rcases List.mem_cons.mp hx with e | hx
  · rw [e]; exact ⟨_, known_int h⟩
  · rcases List.mem_cons.mp hx with e | hx
    · rw [e]; exact ⟨_, known_int w⟩
    · cases hx
/-- a whole number within -/
def inRange (lo hi : Int) : V → Bool
  | .int n => decide (lo ≤ n) && decide (n ≤ hi)
  | _ => false
theorem isInt_of {v : V} (h : isInt v = true) : ∃ n, v = .int n := by
  cases v with
  | int n => exact ⟨n, rfl⟩
  | _ => cases h
theorem all_dims {K : PySem.W.Frag} {H : Hp} {g : Addr} {xs : List V} {N : List Str} (hN : N.length = 2) (hs : SqT K H g xs) (hl : xs.length ≤ 1000) (hk : ∀ x ∈ xs, ∃ n, Known K H x n) :
    Ev (tCB (rAll K) (tCons (tLc (iTup K (tVar 0)) (gName 1) tYes (tAndV (tCall (sp_is_whole K) [] E0 (tCons (tVar 1) tNil)) (tChain oLe oLe (tC (.int 1)) (tVar 1) (tC (.int 6)))) [1]) tNil)) [some (.ref g), none] H (.bl (xs.all (inRange 1 6))) := by
  have e : (((xs.filter fun _ => true).map fun x => V.bl (inRange 1 6 x))) = (xs.map (inRange 1 6)).map V.bl := by
    rw [filter_yes, List.map_map]
    rfl
  have w : EvL (tLc (iTup K (tVar 0)) (gName 1) tYes (tAndV (tCall (sp_is_whole K) [] E0 (tCons (tVar 1) tNil)) (tChain oLe oLe (tC (.int 1)) (tVar 1) (tC (.int 6)))) [1]) [some (.ref g), none] H ((xs.map (inRange 1 6)).map V.bl) := by
    rw [← e]
    refine el_lcT (fun _ => true) _ (est_of (ev_var rfl) hs) (by omega) (fun x => rfl) (fun x H1 e1 hx => et_yes) (fun x H1 e1 hx _ => ?_)
    obtain ⟨n, hn⟩ := hk x hx
    have r : inRange 1 6 x = (isInt x && inRange 1 6 x) := by cases x <;> rfl
    rw [r]
    refine ev_andV (ev_is_whole (ea_cons (ev_var rfl) ea_nil) (hn.mono e1)) (fun hi => ?_)
    obtain ⟨m, rfl⟩ := isInt_of hi
    exact ev_chain ev_c (ev_var rfl) rv_I0 (fun _ => ev_c) (fun _ => rv_I0)
  have z := ev_allS (K := K) (es_new (K := K) w)
  rw [List.all_map] at z
  exact z
theorem pure_check_grid {K : PySem.W.Frag} {C : Ad} {vs : List V} {H : Hp} {Q : VK} {E : XK} {D : Ends} (hD : D.nx = fun _ H' => Q .non H') (h : sp_check_grid K C vs H Q E) : t_check_grid K C E D (start ["grid", "one"] vs) H := by
  obtain ⟨v, rfl, h⟩ := h
  rcases h with ⟨g, h, w, rfl, hs, gk, q⟩ | ⟨hb, q⟩
  · have a := all_dims (N := ["grid", "one"]) rfl hs (by simp) known_grid
    refine s_when (et_or (et_not (et_B (ev_isiTuple (ev_var rfl) ⟨ty_tuple hs, by decide⟩))) (fun _ => et_or (et_test (ev_op (ev_lenT (est_of (ev_var rfl) hs)) ev_c (rv_ne rfl))) (fun _ => et_not (et_B a)))) (fun hb => ?_) (fun _ H1 e1 => ?_)
    · exfalso
      obtain ⟨g1, g2, g3, g4⟩ := gk
      have e : ([V.int (h : Int), V.int (w : Int)].all (inRange 1 6)) = true := by
        simp only [List.all_cons, List.all_nil, inRange, Bool.and_true, Bool.and_eq_true, decide_eq_true_eq]
        omega
      rw [e] at hb
      revert hb
      simp
    · rw [hD]
      exact q H1 e1
  · rcases hb with ⟨n, hk, hn⟩ | ⟨a, xs, rfl, hs, hl, hk, hb⟩
    · have e : (n == "tuple") = false := by simpa using hn
      refine s_when (b := true) (et_is (et_or (b := true) (et_not (et_B (ev_isiTuple (ev_var rfl) hk))) (fun z => ?_)) (by rw [e]; rfl)) (fun _ H1 e1 => q H1 e1) (fun z => nomatch z)
      rw [e] at z
      cases z
    · have a := all_dims (N := ["grid", "one"]) rfl hs hl hk
      refine s_when (et_or (et_not (et_B (ev_isiTuple (ev_var rfl) ⟨ty_tuple hs, by decide⟩))) (fun _ => et_or (et_test (ev_op (ev_lenT (est_of (ev_var rfl) hs)) ev_c (rv_ne rfl))) (fun _ => et_not (et_B a)))) (fun _ H1 e1 => q H1 e1) (fun z => ?_)
      exfalso
      rcases hb with hb | ⟨x, hx, hb⟩
      · have e : decide (V.int (xs.length : Int) = V.int 2) = false := decide_eq_false fun z => hb (by have := V.int.inj z; omega)
        rw [e] at z
        simp at z
      · have e : xs.all (inRange 1 6) = false := by
          rw [List.all_eq_false]
          refine ⟨x, hx, ?_⟩
          cases x with
          | int n =>
            have := hb n rfl
            simp only [inRange, Bool.and_eq_true, decide_eq_true_eq]
            exact this
          | _ => simp [inRange]
        rw [e] at z
        simp at z
theorem ev_check_grid {K : PySem.W.Frag} {C : Ad} {σ : L2.St} {H : Hp} {ta : TA} {E : XK} {g : Addr} {h w : Nat} (ha : EvA ta σ H [.ref g]) (hs : SqT K H g [.int (h : Int), .int (w : Int)]) (gk : GOk h w) : Ev (tCall (sp_check_grid K C) [] E ta) σ H .non := fun H1 e Q q =>
  ha H1 e _ fun H2 e2 => ⟨_, rfl, .inl ⟨g, h, w, rfl, ex_t (e.trans e2) hs, gk, fun H3 e3 => q H3 (e2.trans e3)⟩⟩

/-! ### check_cells -/
/-- a whole number from 0, below m -/
def inCells (m : Int) : V → Bool
  | .int n => decide (0 ≤ n) && decide (n < m)
  | _ => false
def BadC (K : PySem.W.Frag) (H : Hp) (m : Int) (v : V) : Prop := (∃ n, Known K H v n ∧ n ≠ "list") ∨ ∃ a xs ds, v = .ref a ∧ SqL K H a xs ∧ DpAll K H xs ds ∧ SeqAt.shaped (.list ds) = true ∧ xs.length ≤ 1000 ∧
  (xs = [] ∨ xs.all (inCells m) = false ∨ ∃ ns : List Int, xs = ns.map V.int ∧ ¬ Rising ns)
def sp_check_cells (K : PySem.W.Frag) (C : Ad) : Sp := fun vs H Q E => ∃ g h w v, vs = [.ref g, v] ∧ SqT K H g [.int ((h : Nat) : Int), .int ((w : Nat) : Int)] ∧ GOk h w ∧
  ((∃ c cs, v = .ref c ∧ SqL K H c (cs.map V.int) ∧ COk h w cs ∧ RetV .non H Q) ∨ (BadC K H ((h : Int) * w) v ∧ RetE C.cBadCells H E))
def t_check_cells (K : PySem.W.Frag) (C : Ad) (E : XK) : TS := (tSeq (tAsg (tOp oMul (tOp (rIxT K) (tVar 0) (tC (.int 0))) (tOp (rIxT K) (tVar 0) (tC (.int 1)))) (gName 2))
      (tSeq (tIfS (tOr (tNot (tB (tCB (rIsi K) (tCons (tVar 1) (tCons (tC (.ty "list")) tNil))))) (tOr (tTest (tOp (rEqD K) (tVar 1) (tLst tNil))) (tNot (tB (tCB (rAll K) (tCons (tLc (iList K (tVar 1)) (gName 3) tYes (tAndV (tCall (sp_is_whole K) [] E0 (tCons (tVar 3) tNil)) (tChain oLe oLt (tC (.int 0)) (tVar 3) (tVar 2))) [3]) tNil)))))) (tRaise E (.ref C.cBadCells)) tNext)
      (tIfS (tB (tCB (rAny K) (tCons (tLc (iZip K (tCons (tVar 1) (tCons (tSl (rSlL K) (tVar 1) (tPart (tC (.int 1))) tNoPart) tNil))) (gTup K 2 (gCons (gName 3) (gCons (gName 4) gNil))) tYes (tOp oGe (tVar 3) (tVar 4)) [3, 4]) tNil))) (tRaise E (.ref C.cBadCells)) tNext)))
theorem shaped_of_len {ds : List PyData} (h1 : PyData.canLayAll0 ds = true) (h2 : PyData.depthAll ds ≤ 63) : SeqAt.shaped (.list ds) = true := by
  have e1 : PyData.canLay0 (.list ds) = true := by
    rw [PyData.canLay0]
    exact h1
  have e2 : PyData.depth (.list ds) ≤ 64 := by
    rw [PyData.depth]
    omega
  unfold SeqAt.shaped
  rw [e1, decide_eq_true e2]
  rfl
theorem lay_ints : ∀ ns : List Int, PyData.canLayAll0 (ns.map PyData.int) = true
  | [] => rfl
  | n :: r => by simp [PyData.canLayAll0, PyData.canLay0, lay_ints r]
theorem depth_ints : ∀ ns : List Int, PyData.depthAll (ns.map PyData.int) ≤ 1
  | [] => by simp [PyData.depthAll]
  | n :: r => by
    have := depth_ints r
    simp only [List.map_cons, PyData.depthAll, PyData.depth]
    omega
theorem shaped_ints (ns : List Int) : SeqAt.shaped (dI ns) = true := shaped_of_len (lay_ints ns) (by have := depth_ints ns; omega)
theorem shaped_nil : SeqAt.shaped (.list []) = true := shaped_ints []
theorem ed_nil {K : PySem.W.Frag} {σ : L2.St} {H : Hp} : EvD K (tLst tNil) σ H (.list []) := fun H1 e Q q => el_lst (σ := σ) (H := H) ea_nil (by simp) H1 e Q fun p H2 _ e2 hp => q _ H2 e2 (.lst (sq_of hp) .nil)
theorem eqv_nil (ds : List PyData) : PyData.eqv (.list ds) (.list []) = decide (ds = []) := by
  cases ds <;> simp [PyData.eqv, PyData.eqvAll]
theorem dpAll_len {K : PySem.W.Frag} {H : Hp} : ∀ {xs : List V} {ds : List PyData}, DpAll K H xs ds → xs.length = ds.length
  | _, _, .nil => rfl
  | _, _, .cons _ h => by rw [List.length_cons, List.length_cons, dpAll_len h]
theorem dpAll_mem {K : PySem.W.Frag} {H : Hp} : ∀ {xs : List V} {ds : List PyData}, DpAll K H xs ds → ∀ x ∈ xs, ∃ d, Dp K H x d
  | _, _, .cons h hs, x, hx => by
    rcases List.mem_cons.mp hx with e | hx
    · rw [e]; exact ⟨_, h⟩
    · exact dpAll_mem hs x hx
theorem all_cells {K : PySem.W.Frag} {H : Hp} {a : Addr} {xs : List V} {m : Int} {y0 : Option V} (hs : SqL K H a xs) (hl : xs.length ≤ 1000) (hk : ∀ x ∈ xs, ∃ n, Known K H x n) :
    Ev (tCB (rAll K) (tCons (tLc (iList K (tVar 1)) (gName 3) tYes (tAndV (tCall (sp_is_whole K) [] E0 (tCons (tVar 3) tNil)) (tChain oLe oLt (tC (.int 0)) (tVar 3) (tVar 2))) [3]) tNil)) [y0, some (.ref a), some (.int m), none, none] H (.bl (xs.all (inCells m))) := by
  have e : (((xs.filter fun _ => true).map fun x => V.bl (inCells m x))) = (xs.map (inCells m)).map V.bl := by
    rw [filter_yes, List.map_map]
    rfl
  have w : EvL (tLc (iList K (tVar 1)) (gName 3) tYes (tAndV (tCall (sp_is_whole K) [] E0 (tCons (tVar 3) tNil)) (tChain oLe oLt (tC (.int 0)) (tVar 3) (tVar 2))) [3]) [y0, some (.ref a), some (.int m), none, none] H ((xs.map (inCells m)).map V.bl) := by
    rw [← e]
    refine el_lc (fun _ => true) _ (es_of (ev_var rfl) hs) (by omega) (fun x => rfl) (fun x H1 e1 hx => et_yes) (fun x H1 e1 hx _ => ?_)
    obtain ⟨n, hn⟩ := hk x hx
    have r : inCells m x = (isInt x && inCells m x) := by cases x <;> rfl
    rw [r]
    refine ev_andV (ev_is_whole (ea_cons (ev_var rfl) ea_nil) (hn.mono e1)) (fun hi => ?_)
    obtain ⟨k, rfl⟩ := isInt_of hi
    exact ev_chain ev_c (ev_var rfl) rv_I0 (fun _ => ev_var rfl) (fun _ => rv_I0)
  have z := ev_allS (K := K) (es_new (K := K) w)
  rw [List.all_map] at z
  exact z
theorem cut1 (xs : List V) : cutV xs (some 1) none = xs.drop 1 := by
  unfold cutV
  rw [show HT.sIx xs.length 0 (some 1) = min 1 xs.length from HT.sIx_nat xs.length 0 1, HT.sIx_none]
  cases xs with
  | nil => rfl
  | cons x r =>
    rw [show min 1 (x :: r).length = 1 by rw [List.length_cons]; omega]
    show (List.take ((x :: r).length - 1) r) = r
    rw [List.length_cons, Nat.add_sub_cancel]
    exact List.take_length
/-- neighbours that do not rise -/
def falls : List Int → Bool
  | x :: y :: r => decide (y ≤ x) || falls (y :: r)
  | _ => false
theorem falls_eq : ∀ ns : List Int, ((ns.zip (ns.drop 1)).map fun p => decide (p.2 ≤ p.1)).any id = falls ns
  | [] => rfl
  | [_] => rfl
  | x :: y :: r => by
    have ih := falls_eq (y :: r)
    simp only [List.drop_succ_cons, List.drop_zero] at ih ⊢
    rw [List.zip_cons_cons, List.map_cons, List.any_cons, ih]
    rfl
theorem falls_rising : ∀ ns : List Int, falls ns = false ↔ Rising ns
  | [] => ⟨fun _ => .nil, fun _ => rfl⟩
  | [x] => ⟨fun _ => List.pairwise_singleton _ x, fun _ => rfl⟩
  | x :: y :: r => by
    have ih := falls_rising (y :: r)
    unfold Rising at ih ⊢
    have e : falls (x :: y :: r) = (decide (y ≤ x) || falls (y :: r)) := rfl
    rw [e, Bool.or_eq_false_iff, ih, decide_eq_false_iff_not]
    constructor
    · rintro ⟨h1, h2⟩
      refine List.pairwise_cons.mpr ⟨fun z hz => ?_, h2⟩
      rcases List.mem_cons.mp hz with rfl | hz
      · omega
      · have := List.rel_of_pairwise_cons h2 hz
        omega
    · intro h
      obtain ⟨h1, h2⟩ := List.pairwise_cons.mp h
      exact ⟨by have := h1 y List.mem_cons_self; omega, h2⟩
theorem any_falls {K : PySem.W.Frag} {H : Hp} {a : Addr} {ns : List Int} {y0 y2 : Option V} (hs : SqL K H a (ns.map V.int)) (hl : ns.length ≤ 1000) :
    Ev (tCB (rAny K) (tCons (tLc (iZip K (tCons (tVar 1) (tCons (tSl (rSlL K) (tVar 1) (tPart (tC (.int 1))) tNoPart) tNil))) (gTup K 2 (gCons (gName 3) (gCons (gName 4) gNil))) tYes (tOp oGe (tVar 3) (tVar 4)) [3, 4]) tNil)) [y0, some (.ref a), y2, none, none] H (.bl (falls ns)) := by
  have s2 : EvL (tSl (rSlL K) (tVar 1) (tPart (tC (.int 1))) tNoPart) [y0, some (.ref a), y2, none, none] H ((ns.drop 1).map V.int) := by
    have := el_sl (K := K) (te := tVar 1) (σ := [y0, some (.ref a), y2, none, none]) (H := H) (ev_var (i := 1) rfl) (eo_some ev_c) eo_none hs (lo := some 1)
    rw [cut1, ← List.map_drop] at this
    exact this
  have w := el_lcZ (K := K) (t := tYes) (te := tOp oGe (tVar 3) (tVar 4)) (σ := [y0, some (.ref a), y2, none, none]) (H := H) (i := 3) (j := 4) (vs := [3, 4]) (fun _ => true) (fun p => match p with | (.int x, .int y) => V.bl (decide (y ≤ x)) | _ => .non)
    (es_of (ev_var (i := 1) rfl) hs) (es_new s2) (by rw [List.length_map]; omega) (fun x y => rfl) (fun _ _ _ _ => et_yes) (fun p H1 e1 hp _ => by
      obtain ⟨x, y⟩ := p
      have hz := List.of_mem_zip hp
      obtain ⟨m, _, rfl⟩ := List.mem_map.mp hz.1
      obtain ⟨k, _, rfl⟩ := List.mem_map.mp hz.2
      exact ev_op (x := .int m) (y := .int k) (ev_var rfl) (ev_var rfl) rv_I0)
  have e : ((((ns.map V.int).zip ((ns.drop 1).map V.int)).filter fun _ => true).map (fun p => match p with | (.int x, .int y) => V.bl (decide (y ≤ x)) | _ => .non)) = ((ns.zip (ns.drop 1)).map fun p => decide (p.2 ≤ p.1)).map V.bl := by
    rw [filter_yes, List.zip_map, List.map_map, List.map_map]
    rfl
  rw [e] at w
  have z := ev_anyS (K := K) (es_new (K := K) w)
  rw [falls_eq] at z
  exact z
theorem rising_len {m : Int} : ∀ (cs : List Int) (lo : Int), Rising cs → (∀ x ∈ cs, lo ≤ x ∧ x < m) → (cs.length : Int) ≤ max 0 (m - lo)
  | [], _, _, _ => by simp; omega
  | x :: r, lo, h, hb => by
    have h1 := (List.pairwise_cons.mp h).1
    have ih := rising_len r (x + 1) (List.pairwise_cons.mp h).2 (fun y hy => ⟨by have := h1 y hy; omega, (hb y (List.mem_cons_of_mem _ hy)).2⟩)
    have hx := hb x List.mem_cons_self
    rw [List.length_cons]
    omega
theorem cok_len {h w : Nat} {cs : List Int} (gk : GOk h w) (c : COk h w cs) : cs.length ≤ 36 := by
  have := rising_len cs 0 c.2.2 c.2.1
  have := hw_le gk
  omega
theorem pure_check_cells {K : PySem.W.Frag} {C : Ad} {vs : List V} {H : Hp} {Q : VK} {E : XK} {D : Ends} (hD : D.nx = fun _ H' => Q .non H') (h : sp_check_cells K C vs H Q E) : t_check_cells K C E D (start ["grid", "cells", "many", "one", "other"] vs) H := by
  obtain ⟨g, h, w, v, rfl, hg, gk, hv⟩ := h
  change t_check_cells K C E D [some (.ref g), some v, none, none, none] H
  have hwl := hw_le gk
  have gb := gk
  obtain ⟨g1, g2, g3, g4⟩ := gb
  refine q_asg (v := .int ((h : Int) * w)) (by walk_at "ev") fun H1 e1 => ?_
  rcases hv with ⟨c, cs, rfl, hc, ck, q⟩ | ⟨hb, q⟩
  · have cl := cok_len gk ck
    have hc1 := ex_l e1 hc
    have kn : ∀ x ∈ cs.map V.int, ∃ n, Known K H1 x n := fun x hx => by
      obtain ⟨m, _, rfl⟩ := List.mem_map.mp hx
      exact ⟨_, known_int m⟩
    have a := all_cells (K := K) (H := H1) (y0 := some (.ref g)) (m := (h : Int) * w) hc1 (by rw [List.length_map]; omega) kn
    have ea : (cs.map V.int).all (inCells ((h : Int) * w)) = true := by
      rw [List.all_map]
      refine List.all_eq_true.mpr fun x hx => ?_
      have := ck.2.1 x hx
      simp only [Function.comp, inCells, Bool.and_eq_true, decide_eq_true_eq]
      exact this
    rw [ea] at a
    have en : PyData.eqv (dI cs) (.list []) = false := by
      unfold dI
      rw [eqv_nil]
      simp [ck.1]
    refine q_when (b := false) (et_is (et_or (b := false) (et_not (et_B (ev_isiList (ev_var rfl) ⟨ty_list hc1, by decide⟩))) (fun _ => et_is (et_or (et_test (ev_eqD (ed_ints (es_of (ev_var rfl) hc1)) ed_nil (shaped_ints cs) shaped_nil)) (fun _ => et_not (et_B a))) (by rw [en]; rfl))) (by simp)) (fun z => nomatch z) (fun _ H2 e2 => ?_)
    have f := any_falls (K := K) (H := H2) (ns := cs) (y0 := some (.ref g)) (y2 := some (.int ((h : Int) * w))) (ex_l e2 hc1) (by omega)
    rw [(falls_rising cs).mpr ck.2.2] at f
    refine s_when (et_B f) (fun z => nomatch z) (fun _ H3 e3 => ?_)
    rw [hD]
    exact q H3 ((e1.trans e2).trans e3)
  · have q1 : ∀ H2, Ex H1 H2 → E (.ref C.cBadCells) none H2 := fun H2 e2 => q H2 (e1.trans e2)
    rcases hb with ⟨n, hk, hn⟩ | ⟨a, xs, ds, rfl, hs, hd, hsh, hl, hb⟩
    · have e : (n == "list") = false := by simpa using hn
      refine q_when (b := true) (et_is (et_or (b := true) (et_not (et_B (ev_isiList (ev_var rfl) (hk.mono e1)))) (fun z => ?_)) (by rw [e]; rfl)) (fun _ H2 e2 => q1 H2 e2) (fun z => nomatch z)
      rw [e] at z
      cases z
    · have hs1 := ex_l e1 hs
      have hd1 := DpAll.mono e1 hd
      have kn : ∀ x ∈ xs, ∃ n, Known K H1 x n := fun x hx => by
        obtain ⟨d, hd⟩ := dpAll_mem hd1 x hx
        exact known_dp hd
      have a1 := all_cells (K := K) (H := H1) (y0 := some (.ref g)) (m := (h : Int) * w) hs1 hl kn
      have t := et_or (et_not (et_B (ev_isiList (K := K) (σ := [some (.ref g), some (.ref a), some (.int ((h : Int) * w)), none, none]) (H := H1) (ta := tVar 1) (ev_var rfl) ⟨ty_list hs1, by decide⟩))) (fun _ => et_or (et_test (ev_eqD (ed_of (ev_var (i := 1) rfl) (.lst hs1 hd1)) ed_nil hsh shaped_nil)) (fun _ => et_not (et_B a1)))
      refine q_when t (fun _ H2 e2 => q1 H2 e2) (fun z H2 e2 => ?_)
      rcases hb with hb | hb | ⟨ns, rfl, hr⟩
      · exfalso
        subst hb
        have : ds = [] := by
          have := dpAll_len hd
          cases ds with
          | nil => rfl
          | cons _ _ => simp at this
        subst this
        simp [PyData.eqv, PyData.eqvAll] at z
      · rw [hb] at z
        simp at z
      · rw [List.length_map] at hl
        have f := any_falls (K := K) (H := H2) (ns := ns) (y0 := some (.ref g)) (y2 := some (.int ((h : Int) * w))) (ex_l e2 hs1) hl
        have fr : falls ns = true := by
          cases hf : falls ns with
          | true => rfl
          | false => exact absurd ((falls_rising ns).mp hf) hr
        rw [fr] at f
        exact s_when (et_B f) (fun _ H3 e3 => q1 H3 (e2.trans e3)) (fun z => nomatch z)
theorem ev_check_cells {K : PySem.W.Frag} {C : Ad} {σ : L2.St} {H : Hp} {ta : TA} {E : XK} {g c : Addr} {h w : Nat} {cs : List Int} (ha : EvA ta σ H [.ref g, .ref c]) (hs : SqT K H g [.int (h : Int), .int (w : Int)]) (gk : GOk h w) (hc : SqL K H c (cs.map V.int)) (ck : COk h w cs) : Ev (tCall (sp_check_cells K C) [] E ta) σ H .non := fun H1 e Q q =>
  ha H1 e _ fun H2 e2 => ⟨g, h, w, _, rfl, ex_t (e.trans e2) hs, gk, .inl ⟨c, cs, rfl, ex_l (e.trans e2) hc, ck, fun H3 e3 => q H3 (e2.trans e3)⟩⟩

/-! ### new lists of new lists -/
def NewLL (H1 : Hp) (v : V) (H2 : Hp) (xss : List (List V)) : Prop := ∃ p ps, v = .ref p ∧ H1 p = none ∧ H2 p = some (.lst (ps.map V.ref)) ∧ Paired (fun (q : Addr) xs => H1 q = none ∧ H2 q = some (.lst xs)) ps xss
def ints2 (nss : List (List Int)) : List (List V) := nss.map fun ns => ns.map V.int
def dII (nss : List (List Int)) : PyData := .list (nss.map dI)
def RetP (R : Hp → V → Hp → Prop) (H : Hp) (Q : VK) : Prop := ∀ v H2, Ex H H2 → R H v H2 → Q v H2
theorem NewLL.back {H0 H1 H2 : Hp} {v : V} {xss : List (List V)} (e : Ex H0 H1) (h : NewLL H1 v H2 xss) : NewLL H0 v H2 xss := by
  obtain ⟨p, ps, rfl, hp, h2, hr⟩ := h
  exact ⟨p, ps, rfl, fresh_back e hp, h2, Paired.mapP hr fun q xs z => ⟨fresh_back e z.1, z.2⟩⟩
theorem NewLL.on {H1 H2 H3 : Hp} {v : V} {xss : List (List V)} (e : Ex H2 H3) (h : NewLL H1 v H2 xss) : NewLL H1 v H3 xss := by
  obtain ⟨p, ps, rfl, hp, h2, hr⟩ := h
  exact ⟨p, ps, rfl, hp, e _ _ h2, Paired.mapP hr fun q xs z => ⟨z.1, e _ _ z.2⟩⟩
theorem dpAll_rows {K : PySem.W.Frag} {H1 H2 : Hp} : ∀ {ps : List Addr} {nss : List (List Int)}, Paired (fun (q : Addr) xs => H1 q = none ∧ H2 q = some (.lst xs)) ps (ints2 nss) → DpAll K H2 (ps.map V.ref) (nss.map dI)
  | [], [], .nil => .nil
  | p :: ps, ns :: nss, .cons h hs => .cons (dp_ints (sq_of h.2)) (dpAll_rows hs)
theorem NewLL.dp {K : PySem.W.Frag} {H1 H2 : Hp} {v : V} {nss : List (List Int)} (h : NewLL H1 v H2 (ints2 nss)) : Dp K H2 v (dII nss) := by
  obtain ⟨p, ps, rfl, hp, h2, hr⟩ := h
  exact .lst (sq_of h2) (dpAll_rows hr)
section
variable {K : PySem.W.Frag} {σ : L2.St} {H H' : Hp} {te : TE} {t : TT}
theorem paired_snoc {α β : Type} {F : α → β → Prop} : ∀ {l : List α} {m : List β} {a : α} {b : β}, Paired F l m → F a b → Paired F (l ++ [a]) (m ++ [b])
  | [], [], _, _, .nil, h => .cons h .nil
  | _ :: _, _ :: _, _, _, .cons g gs, h => .cons g (paired_snoc gs h)
/-- [e for i in range(n)], e a new list -/
theorem ep_lcRL {ta : TA} {j : Nat} {vs : List Nat} {n : Nat} (g : Nat → List V) (h : EvA ta σ H [.int (n : Int)]) (hn : n ≤ 40000) (hw : ∀ x, wipe ((wipe σ vs).set j (some x)) vs = wipe σ vs)
    (he : ∀ (i : Nat) H1, Ex H H1 → i < n → EvL te ((wipe σ vs).set j (some (.int (i : Int)))) H1 (g i)) :
    EvP (tLc (iRng1 ta) (gName j) tYes te vs) σ H (fun H1 v H2 => NewLL H1 v H2 ((List.range n).map g)) := fun H0 e Q q => h H0 e _ fun H1 e1 => ⟨(n : Int), rfl, by omega, by omega, fun Dl hD => by
  have e0 : ((n : Int)).toNat = n := Int.toNat_natCast n
  rw [e0]
  refine lc_range (lo := 0) (n := n) (fun i H' => H1 Dl = none ∧ Ex H1 H' ∧ i ≤ n ∧ ∃ ps, H' Dl = some (.lst (ps.map V.ref)) ∧ ps.length = i ∧ Paired (fun (q : Addr) xs => (H1 q = none ∧ q ≠ Dl) ∧ H' q = some (.lst xs)) ps ((List.range i).map g)) ⟨hD, Ex.new hD, Nat.zero_le _, [], upd_same, rfl, .nil⟩ (fun i H' hi p => ?_) (fun H' p => ?_)
  · obtain ⟨p1, p2, _, ps, p3, pl, p4⟩ := p
    have z0 : (0 : Int) + (i : Int) = (i : Int) := Int.zero_add _
    show wipe ((wipe σ vs).set j (some (.int ((0 : Int) + (i : Int))))) vs = wipe σ vs ∧ te ((wipe σ vs).set j (some (.int ((0 : Int) + (i : Int))))) H' _
    rw [z0]
    refine ⟨hw _, he i H1 (e.trans e1) hi H' p2 _ fun p H4 hp e4 h4 => ?_⟩
    have ne : p ≠ Dl := (ne_of_none p3 hp).symm
    refine ⟨_, e4 _ _ p3, sz_lt (by rw [List.length_map]; omega), p1, Ex.mut (p2.trans e4) p1, hi, ps ++ [p], ?_, ?_, ?_⟩
    · rw [upd_same, List.map_append]; rfl
    · rw [List.length_append, pl]; rfl
    · rw [List.range_succ, List.map_append]
      refine paired_snoc (Paired.mapP p4 fun q xs z => ⟨z.1, ?_⟩) ⟨⟨fresh_back p2 hp, ne⟩, ?_⟩
      · rw [upd_ne z.1.2]; exact e4 _ _ z.2
      · rw [upd_ne ne]; exact h4
  · obtain ⟨p1, p2, _, ps, p3, _, p4⟩ := p
    exact q _ H' (e1.trans p2) ⟨Dl, ps, rfl, fresh_back e1 p1, p3, Paired.mapP p4 fun q xs z => ⟨fresh_back e1 z.1.1, z.2⟩⟩⟩
theorem s_retP {R : Hp → V → Hp → Prop} {D : Ends} (h : EvP te σ H R) (k : ∀ v H1, Ex H H1 → R H v H1 → D.rt v H1) : tRet te D σ H := h H (Ex.refl H) _ k
end
/-! ### beside -/
def sp_beside (K : PySem.W.Frag) : Sp := fun vs H Q _ => ∃ g h w x, vs = [.ref g, .int x] ∧ SqT K H g [.int ((h : Nat) : Int), .int ((w : Nat) : Int)] ∧ GOk h w ∧ RetL ((beside h w x).map V.int) H Q
theorem el_beside {K : PySem.W.Frag} {σ : L2.St} {H : Hp} {ta : TA} {E : XK} {g : Addr} {h w : Nat} {x : Int} (ha : EvA ta σ H [.ref g, .int x]) (hs : SqT K H g [.int (h : Int), .int (w : Int)]) (gk : GOk h w) : EvL (tCall (sp_beside K) [] E ta) σ H ((beside h w x).map V.int) := fun H1 e Q q =>
  ha H1 e _ fun H2 e2 => ⟨g, h, w, x, rfl, ex_t (e.trans e2) hs, gk, fun p H3 hp e3 h3 => q p H3 (fresh_back e2 hp) (e2.trans e3) h3⟩
def t_beside (K : PySem.W.Frag) : TS := (tSeq (tAsg (tVar 0) (gTup K 2 (gCons (gName 2) (gCons (gName 3) gNil))))
      (tSeq (tAsg (tLst tNil) (gName 4))
      (tSeq (tIfS (tTest (tOp oGe (tVar 1) (tVar 3))) (tDrop (tBM K "list" rAppend (tVar 4) (tCons (tOp oSub (tVar 1) (tVar 3)) tNil))) tNext)
      (tSeq (tIfS (tTest (tOp oGt (tOp oMod (tVar 1) (tVar 3)) (tC (.int 0)))) (tDrop (tBM K "list" rAppend (tVar 4) (tCons (tOp oSub (tVar 1) (tC (.int 1))) tNil))) tNext)
      (tSeq (tIfS (tTest (tOp oLt (tOp oMod (tVar 1) (tVar 3)) (tOp oSub (tVar 3) (tC (.int 1))))) (tDrop (tBM K "list" rAppend (tVar 4) (tCons (tOp oAdd (tVar 1) (tC (.int 1))) tNil))) tNext)
      (tSeq (tIfS (tTest (tOp oLt (tVar 1) (tOp oMul (tVar 3) (tOp oSub (tVar 2) (tC (.int 1)))))) (tDrop (tBM K "list" rAppend (tVar 4) (tCons (tOp oAdd (tVar 1) (tVar 3)) tNil))) tNext)
      (tRet (tVar 4))))))))
theorem pure_beside {K : PySem.W.Frag} {vs : List V} {H : Hp} {Q : VK} {E : XK} {D : Ends} (hD : D.rt = Q) (h : sp_beside K vs H Q E) : t_beside K D (start ["grid", "cell", "high", "wide", "found"] vs) H := by
  obtain ⟨g, h, w, x, rfl, hs, gk, q⟩ := h
  subst hD
  obtain ⟨g1, g2, g3, g4⟩ := gk
  change t_beside K D [some (.ref g), some (.int x), none, none, none] H
  refine q_unp (i := 2) (j := 3) (est_of (ev_var rfl) hs) fun H1 e1 => ?_
  refine q_asgL (i := 4) (el_lst ea_nil (by simp)) fun p H2 hp e2 h2 => ?_
  refine q_ifApp (v := .int (x - w)) (by walk_at "et") h2 (ev_var rfl) (fun _ => by walk_at "ev") (by simp) fun H3 k3 h3 => ?_
  refine q_ifApp (v := .int (x - 1)) (by walk_at "et") h3 (ev_var rfl) (fun _ => by walk_at "ev") (by simp only [List.length_append]; split <;> simp) fun H4 k4 h4 => ?_
  refine q_ifApp (v := .int (x + 1)) (by walk_at "et") h4 (ev_var rfl) (fun _ => by walk_at "ev") (by simp only [List.length_append]; split <;> split <;> simp) fun H5 k5 h5 => ?_
  refine q_ifApp (v := .int (x + w)) (by walk_at "et") h5 (ev_var rfl) (fun _ => by walk_at "ev") (by simp only [List.length_append]; split <;> split <;> split <;> simp) fun H6 k6 h6 => ?_
  refine s_ret (ev_var rfl) fun H7 e7 => q p H7 (fresh_back e1 hp) (fun c o ho => ?_) ?_
  · have ne : c ≠ p := ne_of_none (e1 _ _ ho) hp
    exact e7 _ _ (k6 c o ne (k5 c o ne (k4 c o ne (k3 c o ne (e2 _ _ (e1 _ _ ho))))))
  · rw [e7 _ _ h6]
    congr 2
    unfold beside besideA besideB besideC besideD
    simp only [List.map_append, decide_eq_true_eq, List.nil_append]
    congr 1
    · congr 1
      · congr 1
        · split <;> rfl
        · split <;> rfl
      · split <;> rfl
    · split <;> rfl
/-! ### sides_of -/
def sp_sides_of (K : PySem.W.Frag) : Sp := fun vs H Q _ => ∃ g c h w x cs, vs = [.ref g, .ref c, .int x] ∧ SqT K H g [.int ((h : Nat) : Int), .int ((w : Nat) : Int)] ∧ GOk h w ∧ SqL K H c ((cs : List Int).map V.int) ∧ RetV (.int (sidesOf h w cs x)) H Q
theorem ev_sides_of {K : PySem.W.Frag} {σ : L2.St} {H : Hp} {ta : TA} {E : XK} {g c : Addr} {h w : Nat} {x : Int} {cs : List Int} (ha : EvA ta σ H [.ref g, .ref c, .int x]) (hs : SqT K H g [.int (h : Int), .int (w : Int)]) (gk : GOk h w) (hc : SqL K H c (cs.map V.int)) : Ev (tCall (sp_sides_of K) [] E ta) σ H (.int (sidesOf h w cs x)) := fun H1 e Q q =>
  ha H1 e _ fun H2 e2 => ⟨g, c, h, w, x, cs, rfl, ex_t (e.trans e2) hs, gk, ex_l (e.trans e2) hc, fun H3 e3 => q H3 (e2.trans e3)⟩
def t_sides_of (K : PySem.W.Frag) : TS := (tSeq (tAsg (tCB (rLenS K) (tCons (tLc (iList K (tCall (sp_beside K) [] E0 (tCons (tVar 0) (tCons (tVar 2) tNil)))) (gName 4) (tTest (tOp (rIn K false) (tVar 4) (tVar 1))) (tVar 4) [4]) tNil)) (gName 3))
      (tRet (tIf (tTest (tOp (rIn K false) (tVar 2) (tVar 1))) (tOp oSub (tC (.int 4)) (tVar 3)) (tVar 3))))
theorem pure_sides_of {K : PySem.W.Frag} {vs : List V} {H : Hp} {Q : VK} {E : XK} {D : Ends} (hD : D.rt = Q) (h : sp_sides_of K vs H Q E) : t_sides_of K D (start ["grid", "cells", "cell", "near", "one"] vs) H := by
  obtain ⟨g, c, h, w, x, cs, rfl, hs, gk, hc, q⟩ := h
  subst hD
  change t_sides_of K D [some (.ref g), some (.ref c), some (.int x), none, none] H
  have b := el_beside (E := E0) (K := K) (σ := [some (.ref g), some (.ref c), some (.int x), none, none]) (ta := tCons (tVar 0) (tCons (tVar 2) tNil)) (ea_cons (ev_var rfl) (ea_cons (ev_var rfl) ea_nil)) hs gk
  have l := el_lcI (K := K) (t := tTest (tOp (rIn K false) (tVar 4) (tVar 1))) (te := tVar 4) (j := 4) (vs := [4]) (fun o => decide (o ∈ cs)) V.int (es_new b) (by have := beside_len h w x; omega) (fun x => rfl)
    (fun n H1 e1 hn => et_test (ev_isIn (ev_var rfl) (es_of (ev_var rfl) (ex_l e1 hc)))) (fun n H1 e1 hn _ => ev_var rfl)
  refine q_asg (ev_lenN l) fun H1 e1 => ?_
  rw [List.length_map]
  have hc1 := ex_l e1 hc
  refine s_ret (v := .int (sidesOf h w cs x)) (ev_if (b := decide (x ∈ cs)) (by walk_at "et") (fun hb => ?_) (fun hb => ?_)) fun H2 e2 => q H2 (e1.trans e2)
  · have : sidesOf h w cs x = 4 - (near h w cs x : Int) := if_pos (of_decide_eq_true hb)
    rw [this]
    exact ev_op ev_c (ev_var rfl) rv_I0
  · have : sidesOf h w cs x = (near h w cs x : Int) := if_neg (of_decide_eq_false hb)
    rw [this]
    exact ev_var rfl
/-! ### numbers_of -/
def sp_numbers_of (K : PySem.W.Frag) : Sp := fun vs H Q _ => ∃ g c h w cs, vs = [.ref g, .ref c] ∧ SqT K H g [.int ((h : Nat) : Int), .int ((w : Nat) : Int)] ∧ GOk h w ∧ SqL K H c ((cs : List Int).map V.int) ∧ RetP (fun H1 v H2 => NewLL H1 v H2 (ints2 (numbersOf h w cs))) H Q
theorem ep_numbers_of {K : PySem.W.Frag} {σ : L2.St} {H : Hp} {ta : TA} {E : XK} {g c : Addr} {h w : Nat} {cs : List Int} (ha : EvA ta σ H [.ref g, .ref c]) (hs : SqT K H g [.int (h : Int), .int (w : Int)]) (gk : GOk h w) (hc : SqL K H c (cs.map V.int)) :
    EvP (tCall (sp_numbers_of K) [] E ta) σ H (fun H1 v H2 => NewLL H1 v H2 (ints2 (numbersOf h w cs))) := fun H1 e Q q =>
  ha H1 e _ fun H2 e2 => ⟨g, c, h, w, cs, rfl, ex_t (e.trans e2) hs, gk, ex_l (e.trans e2) hc, fun v H3 e3 z => q v H3 (e2.trans e3) (z.back e2)⟩
def t_numbers_of (K : PySem.W.Frag) : TS := (tSeq (tAsg (tVar 0) (gTup K 2 (gCons (gName 2) (gCons (gName 3) gNil))))
      (tRet (tLc (iRng1 (tCons (tVar 2) tNil)) (gName 4) tYes (tLc (iRng1 (tCons (tVar 3) tNil)) (gName 5) tYes (tCall (sp_sides_of K) [] E0 (tCons (tVar 0) (tCons (tVar 1) (tCons (tOp oAdd (tOp oMul (tVar 4) (tVar 3)) (tVar 5)) tNil)))) [5]) [4])))
theorem pure_numbers_of {K : PySem.W.Frag} {vs : List V} {H : Hp} {Q : VK} {E : XK} {D : Ends} (hD : D.rt = Q) (h : sp_numbers_of K vs H Q E) : t_numbers_of K D (start ["grid", "cells", "high", "wide", "row", "at"] vs) H := by
  obtain ⟨g, c, h, w, cs, rfl, hs, gk, hc, q⟩ := h
  subst hD
  change t_numbers_of K D [some (.ref g), some (.ref c), none, none, none, none] H
  have gb := gk
  obtain ⟨g1, g2, g3, g4⟩ := gb
  refine q_unp (i := 2) (j := 3) (est_of (ev_var rfl) hs) fun H1 e1 => ?_
  have k := ep_lcRL (σ := [some (.ref g), some (.ref c), some (.int (h : Int)), some (.int (w : Int)), none, none]) (H := H1) (j := 4) (vs := [4]) (n := h) (ta := tCons (tVar 2) tNil)
    (te := tLc (iRng1 (tCons (tVar 3) tNil)) (gName 5) tYes (tCall (sp_sides_of K) [] E0 (tCons (tVar 0) (tCons (tVar 1) (tCons (tOp oAdd (tOp oMul (tVar 4) (tVar 3)) (tVar 5)) tNil)))) [5])
    (fun i => ((List.range w).map fun (a : Nat) => sidesOf h w cs ((i : Int) * w + (a : Int))).map V.int) (ea_cons (ev_var rfl) ea_nil) (by omega) (fun x => rfl) (fun i H2 e2 hi => by
      have l := el_lcR (σ := [some (.ref g), some (.ref c), some (.int (h : Int)), some (.int (w : Int)), some (.int (i : Int)), none]) (H := H2) (t := tYes) (te := tCall (sp_sides_of K) [] E0 (tCons (tVar 0) (tCons (tVar 1) (tCons (tOp oAdd (tOp oMul (tVar 4) (tVar 3)) (tVar 5)) tNil)))) (j := 5) (vs := [5]) (n := w) (ta := tCons (tVar 3) tNil)
        (fun _ => true) (fun a => V.int (sidesOf h w cs ((i : Int) * w + (a : Int)))) (ea_cons (ev_var rfl) ea_nil) (by omega) (fun x => rfl) (fun _ _ _ _ => et_yes) (fun a H3 e3 ha _ =>
          ev_sides_of (ea_cons (ev_var rfl) (ea_cons (ev_var rfl) (ea_cons (by walk_at "ev") ea_nil))) (ex_t ((e1.trans e2).trans e3) hs) gk (ex_l ((e1.trans e2).trans e3) hc))
      rw [filter_yes] at l
      rw [List.map_map]
      exact l)
  refine s_retP k fun v H2 e2 z => q v H2 (e1.trans e2) (z.back e1 |> fun z => ?_)
  unfold ints2 numbersOf
  rw [List.map_map]
  exact z
/-! ### numbers -/
def sp_numbers (K : PySem.W.Frag) (C : Ad) : Sp := fun vs H Q E => ∃ v u, vs = [v, u] ∧
  ((BadG K H v ∧ RetE C.cBadGrid H E) ∨
   (∃ g h w, v = .ref g ∧ SqT K H g [.int ((h : Nat) : Int), .int ((w : Nat) : Int)] ∧ GOk h w ∧ ((BadC K H ((h : Int) * w) u ∧ RetE C.cBadCells H E) ∨
     ∃ c cs, u = .ref c ∧ SqL K H c (cs.map V.int) ∧ COk h w cs ∧ RetP (fun H1 v H2 => NewLL H1 v H2 (ints2 (numbersOf h w cs))) H Q)))
theorem ep_numbers {K : PySem.W.Frag} {C : Ad} {σ : L2.St} {H : Hp} {ta : TA} {E : XK} {g c : Addr} {h w : Nat} {cs : List Int} (ha : EvA ta σ H [.ref g, .ref c]) (hs : SqT K H g [.int (h : Int), .int (w : Int)]) (gk : GOk h w) (hc : SqL K H c (cs.map V.int)) (ck : COk h w cs) :
    EvP (tCall (sp_numbers K C) [] E ta) σ H (fun H1 v H2 => NewLL H1 v H2 (ints2 (numbersOf h w cs))) := fun H1 e Q q =>
  ha H1 e _ fun H2 e2 => ⟨_, _, rfl, .inr ⟨g, h, w, rfl, ex_t (e.trans e2) hs, gk, .inr ⟨c, cs, rfl, ex_l (e.trans e2) hc, ck, fun v H3 e3 z => q v H3 (e2.trans e3) (z.back e2)⟩⟩⟩
def t_numbers (K : PySem.W.Frag) (C : Ad) (E : XK) : TS := (tSeq (tDrop (tCall (sp_check_grid K C) [] E (tCons (tVar 0) tNil)))
      (tSeq (tDrop (tCall (sp_check_cells K C) [] E (tCons (tVar 0) (tCons (tVar 1) tNil))))
      (tRet (tCall (sp_numbers_of K) [] E0 (tCons (tVar 0) (tCons (tVar 1) tNil))))))
theorem pure_numbers {K : PySem.W.Frag} {C : Ad} {vs : List V} {H : Hp} {Q : VK} {E : XK} {D : Ends} (hD : D.rt = Q) (h : sp_numbers K C vs H Q E) : t_numbers K C E D (start ["grid", "cells"] vs) H := by
  obtain ⟨v, u, rfl, h⟩ := h
  subst hD
  change t_numbers K C E D [some v, some u] H
  rcases h with ⟨hb, q⟩ | ⟨g, h, w, rfl, hs, gk, h⟩
  · exact ⟨v, rfl, v, rfl, .inr ⟨hb, q⟩⟩
  · refine q_drop (ev_check_grid (ea_cons (ev_var rfl) ea_nil) hs gk) fun H1 e1 => ?_
    rcases h with ⟨hb, q⟩ | ⟨c, cs, rfl, hc, ck, q⟩
    · refine ⟨_, rfl, u, rfl, g, h, w, u, rfl, ex_t e1 hs, gk, .inr ⟨?_, fun H2 e2 => q H2 (e1.trans e2)⟩⟩
      rcases hb with ⟨n, hk, hn⟩ | ⟨a, xs, ds, rfl, h1, h2, h3⟩
      · exact .inl ⟨n, hk.mono e1, hn⟩
      · exact .inr ⟨a, xs, ds, rfl, ex_l e1 h1, DpAll.mono e1 h2, h3⟩
    · refine q_drop (ev_check_cells (ea_cons (ev_var rfl) (ea_cons (ev_var rfl) ea_nil)) (ex_t e1 hs) gk (ex_l e1 hc) ck) fun H2 e2 => ?_
      refine s_retP (ep_numbers_of (ea_cons (ev_var rfl) (ea_cons (ev_var rfl) ea_nil)) (ex_t (e1.trans e2) hs) gk (ex_l (e1.trans e2) hc)) fun v H3 e3 z => q v H3 ((e1.trans e2).trans e3) (z.back (e1.trans e2))

/-! ### spread -/
def sp_spread (K : PySem.W.Frag) : Sp := fun vs H Q _ => ∃ g c h w x cs, vs = [.ref g, .int x, .ref c] ∧ SqT K H g [.int ((h : Nat) : Int), .int ((w : Nat) : Int)] ∧ GOk h w ∧ SqL K H c ((cs : List Int).map V.int) ∧ cs.length ≤ 1000 ∧ RetL ((spread h w x cs).map V.int) H Q
theorem el_spread {K : PySem.W.Frag} {σ : L2.St} {H : Hp} {ta : TA} {E : XK} {g c : Addr} {h w : Nat} {x : Int} {cs : List Int} (ha : EvA ta σ H [.ref g, .int x, .ref c]) (hs : SqT K H g [.int (h : Int), .int (w : Int)]) (gk : GOk h w) (hc : SqL K H c (cs.map V.int)) (hl : cs.length ≤ 1000) : EvL (tCall (sp_spread K) [] E ta) σ H ((spread h w x cs).map V.int) := fun H1 e Q q =>
  ha H1 e _ fun H2 e2 => ⟨g, c, h, w, x, cs, rfl, ex_t (e.trans e2) hs, gk, ex_l (e.trans e2) hc, hl, fun p H3 hp e3 h3 => q p H3 (fresh_back e2 hp) (e2.trans e3) h3⟩
def t_spread (K : PySem.W.Frag) : TS := (tSeq (tAsg (tTup (tCons (tLst (tCons (tVar 1) tNil)) (tCons (tC (.int 0)) tNil))) (gTup K 2 (gCons (gName 3) (gCons (gName 4) gNil))))
      (tSeq (tWhile (tTest (tOp oLt (tVar 4) (tCB (rLenS K) (tCons (tVar 3) tNil)))) (tSeq (tDrop (tBM K "list" rExtend (tVar 3) (tCons (tLc (iList K (tCall (sp_beside K) [] E0 (tCons (tVar 0) (tCons (tOp (rIxL K) (tVar 3) (tVar 4)) tNil)))) (gName 5) (tAnd (tTest (tOp (rIn K false) (tVar 5) (tVar 2))) (tTest (tOp (rIn K true) (tVar 5) (tVar 3)))) (tVar 5) [5]) tNil)))
      (tAug 4 (tC (.int 1)) (ipI fun i j => i + j))))
      (tRet (tVar 3))))
theorem pure_spread {K : PySem.W.Frag} {vs : List V} {H : Hp} {Q : VK} {E : XK} {D : Ends} (hD : D.rt = Q) (h : sp_spread K vs H Q E) : t_spread K D (start ["grid", "first", "some", "found", "at", "one"] vs) H := by
  obtain ⟨g, c, h, w, x, cs, rfl, hs, gk, hc, hl, q⟩ := h
  subst hD
  change t_spread K D [some (.ref g), some (.int x), some (.ref c), none, none, none] H
  refine q_tupLV (i := 3) (j := 4) (xs := [x].map V.int) (y := .int 0) (el_lst (ea_cons (ev_var rfl) ea_nil) (by simp)) ev_c fun p H1 hp e1 h1 => ?_
  refine q_while (fun m σ' H' => ∃ (f : List Int) (a : Nat), σ' = [some (.ref g), some (.int x), some (.ref c), some (.ref p), some (.int (a : Int)), none] ∧ Ex H H' ∧ H' p = some (.lst (f.map V.int)) ∧ f.Nodup ∧ (∀ o ∈ f, o ∈ x :: cs) ∧ m + a = cs.length + 2 ∧ spreadGo h w cs m f a = spread h w x cs)
    (cs.length + 2) ⟨[x], 0, rfl, e1, h1, by simp, by simp, by omega, rfl⟩ fun m σ' H' hW => ?_
  obtain ⟨f, a, rfl, e2, h2, fn, fs, hm, hg⟩ := hW
  have fl : f.length ≤ cs.length + 1 := nodup_sub (m := x :: cs) fn fs
  have lm : (f.map V.int).length = f.length := List.length_map ..
  refine ⟨decide ((a : Int) < (f.length : Int)), et_test (ev_op (x := .int (a : Int)) (y := .int (f.length : Int)) (ev_var rfl) (ev_is (ev_lenS (K := K) (es_of (ev_var rfl) (sq_of h2))) (by rw [lm])) rv_I0), fun hb H3 e3 => ?_, fun hb H3 e3 => ?_⟩
  · have ha : a < f.length := by have := of_decide_eq_true hb; omega
    cases m with
    | zero => omega
    | succ m =>
      have hfa : f[a]? = some f[a] := List.getElem?_eq_getElem ha
      unfold spreadGo at hg
      rw [hfa] at hg
      dsimp only at hg
      have st := spread_step (h := h) (w := w) gk.2.2.1 (x := f[a]) fn fs
      have gl := nodup_sub (m := x :: cs) st.1 st.2
      refine ⟨fun σ2 H2 => ∃ (f : List Int) (a : Nat), σ2 = [some (.ref g), some (.int x), some (.ref c), some (.ref p), some (.int (a : Int)), none] ∧ Ex H H2 ∧ H2 p = some (.lst (f.map V.int)) ∧ f.Nodup ∧ (∀ o ∈ f, o ∈ x :: cs) ∧ m + a = cs.length + 2 ∧ spreadGo h w cs m f a = spread h w x cs, fun σ2 H2 z => ⟨m, by omega, z⟩, ?_⟩
      have h3 := e3 _ _ h2
      have hs3 := ex_t (e2.trans e3) hs
      have hc3 := ex_l (e2.trans e3) hc
      have it : Ev (tOp (rIxL K) (tVar 3) (tVar 4)) [some (.ref g), some (.int x), some (.ref c), some (.ref p), some (.int (a : Int)), none] H3 (.int f[a]) := by
        refine ev_ixS (i := (a : Int)) (es_of (ev_var rfl) (sq_of h3)) (ev_var rfl) (atI_nat ?_)
        rw [List.getElem?_map, hfa]
        rfl
      have b := el_beside (E := E0) (K := K) (ta := tCons (tVar 0) (tCons (tOp (rIxL K) (tVar 3) (tVar 4)) tNil)) (ea_cons (ev_var rfl) (ea_cons it ea_nil)) hs3 gk
      have l := el_lcI (K := K) (t := tAnd (tTest (tOp (rIn K false) (tVar 5) (tVar 2))) (tTest (tOp (rIn K true) (tVar 5) (tVar 3)))) (te := tVar 5) (j := 5) (vs := [5]) (fun o => decide (o ∈ cs) && !decide (o ∈ f)) V.int (es_new b) (by have := beside_len h w f[a]; omega) (fun x => rfl)
        (fun n H4 e4 hn => et_and (et_test (ev_isIn (ev_var rfl) (es_of (ev_var rfl) (ex_l e4 hc3)))) (fun _ => et_test (ev_notIn (ev_var rfl) (es_of (ev_var rfl) (sq_of (e4 _ _ h3)))))) (fun n H4 e4 hn _ => ev_var rfl)
      refine q_extL (K := K) h3 (ev_var rfl) l (by rw [lm, List.length_map]; rw [List.length_append] at gl; simp only [List.length_cons] at gl; omega) fun H4 e4 => ?_
      refine s_aug (a := (a : Int)) (b := 1) rfl ev_c fun H5 e5 => ⟨_, a + 1, ?_, ?_, e5 _ _ upd_same |>.trans ?_, st.1, st.2, by omega, hg⟩
      · show [some (V.ref g), some (V.int x), some (V.ref c), some (V.ref p), some (V.int ((a : Int) + 1)), none] = _
        rfl
      · exact (Ex.mut ((e2.trans e3).trans e4) hp).trans e5
      · rw [List.map_append]
  · have ha : ¬ a < f.length := by have := of_decide_eq_false hb; omega
    have e : spread h w x cs = f := by
      rw [← hg]
      cases m with
      | zero => rfl
      | succ m =>
        unfold spreadGo
        rw [List.getElem?_eq_none (by omega)]
    refine s_ret (ev_var rfl) fun H4 e4 => q p H4 hp ((e2.trans e3).trans e4) ?_
    rw [e]
    exact e4 _ _ (e3 _ _ h2)
/-! ### is_inner -/
def sp_is_inner (K : PySem.W.Frag) : Sp := fun vs H Q _ => ∃ g c h w x cs, vs = [.ref g, .ref c, .int x] ∧ SqT K H g [.int ((h : Nat) : Int), .int ((w : Nat) : Int)] ∧ GOk h w ∧ SqL K H c ((cs : List Int).map V.int) ∧ RetV (.bl (isInner h w cs x)) H Q
theorem ev_is_inner {K : PySem.W.Frag} {σ : L2.St} {H : Hp} {ta : TA} {E : XK} {g c : Addr} {h w : Nat} {x : Int} {cs : List Int} (ha : EvA ta σ H [.ref g, .ref c, .int x]) (hs : SqT K H g [.int (h : Int), .int (w : Int)]) (gk : GOk h w) (hc : SqL K H c (cs.map V.int)) : Ev (tCall (sp_is_inner K) [] E ta) σ H (.bl (isInner h w cs x)) := fun H1 e Q q =>
  ha H1 e _ fun H2 e2 => ⟨g, c, h, w, x, cs, rfl, ex_t (e.trans e2) hs, gk, ex_l (e.trans e2) hc, fun H3 e3 => q H3 (e2.trans e3)⟩
def t_is_inner (K : PySem.W.Frag) : TS := (tSeq (tAsg (tVar 0) (gTup K 2 (gCons (gName 3) (gCons (gName 4) gNil))))
      (tSeq (tAsg (tLc (iRng1 (tCons (tOp oMul (tVar 3) (tVar 4)) tNil)) (gName 6) (tTest (tOp (rIn K true) (tVar 6) (tVar 1))) (tVar 6) [6]) (gName 5))
      (tSeq (tFor (iList K (tCall (sp_spread K) [] E0 (tCons (tVar 0) (tCons (tVar 2) (tCons (tVar 5) tNil))))) (gName 6) (tIfS (tOr (tTest (tOp oLt (tVar 6) (tVar 4))) (tOr (tTest (tOp oGe (tVar 6) (tOp oMul (tVar 4) (tOp oSub (tVar 3) (tC (.int 1)))))) (tTest (tOp (rIn K false) (tOp oMod (tVar 6) (tVar 4)) (tTup (tCons (tC (.int 0)) (tCons (tOp oSub (tVar 4) (tC (.int 1))) tNil))))))) (tRet (tC (.bl false))) tNext))
      (tRet (tC (.bl true))))))
theorem pure_is_inner {K : PySem.W.Frag} {vs : List V} {H : Hp} {Q : VK} {E : XK} {D : Ends} (hD : D.rt = Q) (h : sp_is_inner K vs H Q E) : t_is_inner K D (start ["grid", "cells", "cell", "high", "wide", "rest", "one"] vs) H := by
  obtain ⟨g, c, h, w, x, cs, rfl, hs, gk, hc, q⟩ := h
  subst hD
  change t_is_inner K D [some (.ref g), some (.ref c), some (.int x), none, none, none, none] H
  have gb := gk
  obtain ⟨g1, g2, g3, g4⟩ := gb
  have hwl := hw_le gk
  have cast : ((h * w : Nat) : Int) = (h : Int) * w := Int.natCast_mul h w
  refine q_unp (i := 3) (j := 4) (est_of (ev_var rfl) hs) fun H1 e1 => ?_
  have hc1 := ex_l e1 hc
  have hs1 := ex_t e1 hs
  have l := el_lcR (σ := [some (.ref g), some (.ref c), some (.int x), some (.int (h : Int)), some (.int (w : Int)), none, none]) (H := H1) (t := tTest (tOp (rIn K true) (tVar 6) (tVar 1))) (te := tVar 6) (j := 6) (vs := [6]) (n := h * w) (ta := tCons (tOp oMul (tVar 3) (tVar 4)) tNil)
    (fun i => !decide ((i : Int) ∈ cs)) (fun i => V.int (i : Int)) (ea_cons (by rw [cast]; walk_at "ev") ea_nil) (by omega) (fun x => rfl) (fun i H2 e2 hi => et_test (ev_notIn (ev_var rfl) (es_of (ev_var rfl) (ex_l e2 hc1)))) (fun i H2 e2 hi _ => ev_var rfl)
  have le : (((List.range (h * w)).filter fun (i : Nat) => !decide ((i : Int) ∈ cs)).map fun (i : Nat) => V.int (i : Int)) = (restOf h w cs).map V.int := by
    unfold restOf
    rw [List.map_map]
    rfl
  rw [le] at l
  refine q_asgL (i := 5) l fun r H2 hr e2 h2 => ?_
  have rl := restOf_len h w cs
  have hs2 := ex_t e2 hs1
  have sp := el_spread (E := E0) (K := K) (σ := [some (.ref g), some (.ref c), some (.int x), some (.int (h : Int)), some (.int (w : Int)), some (.ref r), none]) (H := H2) (ta := tCons (tVar 0) (tCons (tVar 2) (tCons (tVar 5) tNil))) (ea_cons (ev_var rfl) (ea_cons (ev_var rfl) (ea_cons (ev_var rfl) ea_nil))) hs2 gk (sq_of h2) (by omega)
  have isI : isInner h w cs x = (spread h w x (restOf h w cs)).all fun o => !onEdge h w o := rfl
  generalize spread h w x (restOf h w cs) = fs at *
  refine q_forNLn (K := K) (j := 6) sp (fun p n σ' H' => ∃ y6, σ' = [some (.ref g), some (.ref c), some (.int x), some (.int (h : Int)), some (.int (w : Int)), some (.ref r), y6] ∧ Ex H2 H' ∧ H' p = some (.lst (fs.map V.int)) ∧ ∀ o ∈ fs.take n, onEdge h w o = false)
    (fun p H3 hp e3 h3 => ⟨_, rfl, e3, h3, by simp⟩) (fun p n σ' H' _ hP => by obtain ⟨_, _, _, h3, _⟩ := hP; exact sq_of h3) (fun p n v σ' H3 hv hP => ?_) (fun p σ' H3 hP => ?_)
  · obtain ⟨y6, rfl, e3, h3, hk⟩ := hP
    rw [List.getElem?_map] at hv
    obtain ⟨o, ho, rfl⟩ := Option.map_eq_some_iff.mp hv
    have hs3 := ex_t e3 hs2
    refine s_when (b := onEdge h w o) ?_ (fun hb H4 e4 => ?_) (fun hb H4 e4 => ⟨_, rfl, e3.trans e4, e4 _ _ h3, fun o' ho' => ?_⟩)
    · refine et_or (et_test (ev_op (x := .int o) (y := .int (w : Int)) (ev_var rfl) (ev_var rfl) rv_I0)) (fun _ => et_or (et_test (ev_op (x := .int o) (y := .int ((w : Int) * ((h : Int) - 1))) (ev_var rfl) (by walk_at "ev") rv_I0)) (fun _ => et_test ?_))
      exact ev_inT2 (ev_op (x := .int o) (y := .int (w : Int)) (ev_var rfl) (ev_var rfl) (rv_I (by show (0 : Int) < _; omega))) (est_new (eu_tup (by walk_at "ea") (by simp)))
    · refine s_ret ev_c fun H5 e5 => ?_
      have : isInner h w cs x = false := by
        rw [isI, List.all_eq_false]
        exact ⟨o, List.mem_of_getElem? ho, by simp [hb]⟩
      rw [this] at q
      exact q H5 ((((e1.trans e2).trans e3).trans e4).trans e5)
    · rw [take_snoc ho] at ho'
      rcases List.mem_append.mp ho' with z | z
      · exact hk o' z
      · have : o' = o := by simpa using z
        rw [this]
        exact hb
  · obtain ⟨y6, rfl, e3, h3, hk⟩ := hP
    rw [List.length_map, List.take_length] at hk
    refine s_ret ev_c fun H4 e4 => ?_
    have : isInner h w cs x = true := by
      rw [isI, List.all_eq_true]
      intro o ho
      simp [hk o ho]
    rw [this] at q
    exact q H4 (((e1.trans e2).trans e3).trans e4)
/-! ### first_inner -/
def optV : Option Nat → V
  | none => .non
  | some n => .int (n : Int)
def sp_first_inner (K : PySem.W.Frag) : Sp := fun vs H Q _ => ∃ g c h w cs, vs = [.ref g, .ref c] ∧ SqT K H g [.int ((h : Nat) : Int), .int ((w : Nat) : Int)] ∧ GOk h w ∧ SqL K H c ((cs : List Int).map V.int) ∧ RetV (optV (firstInner h w cs)) H Q
theorem ev_first_inner {K : PySem.W.Frag} {σ : L2.St} {H : Hp} {ta : TA} {E : XK} {g c : Addr} {h w : Nat} {cs : List Int} (ha : EvA ta σ H [.ref g, .ref c]) (hs : SqT K H g [.int (h : Int), .int (w : Int)]) (gk : GOk h w) (hc : SqL K H c (cs.map V.int)) : Ev (tCall (sp_first_inner K) [] E ta) σ H (optV (firstInner h w cs)) := fun H1 e Q q =>
  ha H1 e _ fun H2 e2 => ⟨g, c, h, w, cs, rfl, ex_t (e.trans e2) hs, gk, ex_l (e.trans e2) hc, fun H3 e3 => q H3 (e2.trans e3)⟩
def t_first_inner (K : PySem.W.Frag) : TS := (tSeq (tFor (iRng1 (tCons (tOp oMul (tOp (rIxT K) (tVar 0) (tC (.int 0))) (tOp (rIxT K) (tVar 0) (tC (.int 1)))) tNil)) (gName 2) (tIfS (tAnd (tTest (tOp (rIn K true) (tVar 2) (tVar 1))) (tB (tCall (sp_is_inner K) [] E0 (tCons (tVar 0) (tCons (tVar 1) (tCons (tVar 2) tNil)))))) (tRet (tVar 2)) tNext))
      (tRet (tC .non)))
theorem find_range_some {f : Nat → Bool} {n i : Nat} (hi : i < n) (hf : f i = true) (hb : ∀ j < i, f j = false) : (List.range n).find? f = some i := by
  rw [List.find?_range_eq_some]
  exact ⟨hf, by simpa using hi, fun j hj => by simp [hb j hj]⟩
theorem find_range_none {f : Nat → Bool} {n : Nat} (hb : ∀ j < n, f j = false) : (List.range n).find? f = none := by
  rw [List.find?_eq_none]
  intro x hx
  simp [hb x (List.mem_range.mp hx)]
theorem pure_first_inner {K : PySem.W.Frag} {vs : List V} {H : Hp} {Q : VK} {E : XK} {D : Ends} (hD : D.rt = Q) (h : sp_first_inner K vs H Q E) : t_first_inner K D (start ["grid", "cells", "cell"] vs) H := by
  obtain ⟨g, c, h, w, cs, rfl, hs, gk, hc, q⟩ := h
  subst hD
  change t_first_inner K D [some (.ref g), some (.ref c), none] H
  have gb := gk
  obtain ⟨g1, g2, g3, g4⟩ := gb
  have hwl := hw_le gk
  have cast : ((h * w : Nat) : Int) = (h : Int) * w := Int.natCast_mul h w
  have hm : ((h : Int) * w).toNat = h * w := by rw [← cast]; exact Int.toNat_natCast _
  refine q_forR1 (j := 2) (n := (h : Int) * w) (ea_cons (by walk_at "ev") ea_nil) ⟨by omega, by omega⟩ (fun i σ' H' => ∃ y2, σ' = [some (.ref g), some (.ref c), y2] ∧ Ex H H' ∧ ∀ j < i, (!decide ((j : Int) ∈ cs) && isInner h w cs (j : Int)) = false)
    (fun H1 e1 => ⟨_, rfl, e1, fun j hj => absurd hj (Nat.not_lt_zero j)⟩) (fun i σ' H1 hi hP => ?_) (fun σ' H1 hP => ?_)
  · obtain ⟨y2, rfl, e1, hk⟩ := hP
    have hc1 := ex_l e1 hc
    have hs1 := ex_t e1 hs
    refine s_when (b := !decide ((i : Int) ∈ cs) && isInner h w cs (i : Int)) (et_and (et_test (ev_notIn (ev_var rfl) (es_of (ev_var rfl) hc1))) (fun _ => et_B (ev_is_inner (ea_cons (ev_var rfl) (ea_cons (ev_var rfl) (ea_cons (ev_var rfl) ea_nil))) hs1 gk hc1))) (fun hb H2 e2 => ?_) (fun hb H2 e2 => ⟨_, rfl, e1.trans e2, fun j hj => ?_⟩)
    · refine s_ret (ev_var rfl) fun H3 e3 => ?_
      have : firstInner h w cs = some i := find_range_some (by omega) hb hk
      rw [this] at q
      exact q H3 ((e1.trans e2).trans e3)
    · by_cases hji : j < i
      · exact hk j hji
      · have : j = i := by omega
        rw [this]
        exact hb
  · obtain ⟨y2, rfl, e1, hk⟩ := hP
    rw [hm] at hk
    refine s_ret ev_c fun H2 e2 => ?_
    have : firstInner h w cs = none := find_range_none hk
    rw [this] at q
    exact q H2 (e1.trans e2)
/-! ### is_ring -/
def sp_is_ring (K : PySem.W.Frag) : Sp := fun vs H Q _ => ∃ g c h w cs, vs = [.ref g, .ref c] ∧ SqT K H g [.int ((h : Nat) : Int), .int ((w : Nat) : Int)] ∧ GOk h w ∧ SqL K H c ((cs : List Int).map V.int) ∧ cs ≠ [] ∧ cs.length ≤ 1000 ∧ RetV (.bl (isRing h w cs)) H Q
theorem ev_is_ring {K : PySem.W.Frag} {σ : L2.St} {H : Hp} {ta : TA} {E : XK} {g c : Addr} {h w : Nat} {cs : List Int} (ha : EvA ta σ H [.ref g, .ref c]) (hs : SqT K H g [.int (h : Int), .int (w : Int)]) (gk : GOk h w) (hc : SqL K H c (cs.map V.int)) (hn : cs ≠ []) (hl : cs.length ≤ 1000) : Ev (tCall (sp_is_ring K) [] E ta) σ H (.bl (isRing h w cs)) := fun H1 e Q q =>
  ha H1 e _ fun H2 e2 => ⟨g, c, h, w, cs, rfl, ex_t (e.trans e2) hs, gk, ex_l (e.trans e2) hc, hn, hl, fun H3 e3 => q H3 (e2.trans e3)⟩
def t_is_ring (K : PySem.W.Frag) : TS := (tSeq (tIfS (tTest (tOp oLt (tCB (rLenS K) (tCons (tCall (sp_spread K) [] E0 (tCons (tVar 0) (tCons (tOp (rIxL K) (tVar 1) (tC (.int 0))) (tCons (tVar 1) tNil)))) tNil)) (tCB (rLenS K) (tCons (tVar 1) tNil)))) (tRet (tC (.bl false))) tNext)
      (tRet (tOp rIsN (tCall (sp_first_inner K) [] E0 (tCons (tVar 0) (tCons (tVar 1) tNil))) (tC .non))))
theorem at_first {cs : List Int} (hn : cs ≠ []) : atI (cs.map V.int) 0 = some (.int (cs.headD 0)) := by
  cases cs with
  | nil => exact absurd rfl hn
  | cons a r => exact atI_nat (j := 0) rfl
theorem opt_is (o : Option Nat) : decide (optV o = V.non) = o.isNone := by
  cases o with
  | none => rfl
  | some n => exact decide_eq_false fun e => V.noConfusion e
theorem pure_is_ring {K : PySem.W.Frag} {vs : List V} {H : Hp} {Q : VK} {E : XK} {D : Ends} (hD : D.rt = Q) (h : sp_is_ring K vs H Q E) : t_is_ring K D (start ["grid", "cells"] vs) H := by
  obtain ⟨g, c, h, w, cs, rfl, hs, gk, hc, hn, hl, q⟩ := h
  subst hD
  change t_is_ring K D [some (.ref g), some (.ref c)] H
  have it : Ev (tOp (rIxL K) (tVar 1) (tC (.int 0))) [some (.ref g), some (.ref c)] H (.int (cs.headD 0)) := ev_ixS (es_of (ev_var rfl) hc) ev_c (at_first hn)
  have sp := el_spread (E := E0) (K := K) (ta := tCons (tVar 0) (tCons (tOp (rIxL K) (tVar 1) (tC (.int 0))) (tCons (tVar 1) tNil))) (ea_cons (ev_var rfl) (ea_cons it (ea_cons (ev_var rfl) ea_nil))) hs gk hc hl
  have t := et_test (ev_op (r := oLt) (ev_lenN (K := K) sp) (ev_lenS (K := K) (ta := tVar 1) (es_of (ev_var rfl) hc)) rv_I0)
  rw [List.length_map, List.length_map] at t
  refine q_when t (fun hb H1 e1 => ?_) (fun hb H1 e1 => ?_)
  · have : isRing h w cs = false := if_pos (by have := of_decide_eq_true hb; omega)
    rw [this] at q
    exact s_ret ev_c fun H2 e2 => q H2 (e1.trans e2)
  · have : isRing h w cs = (firstInner h w cs).isNone := if_neg (by have := of_decide_eq_false hb; omega)
    rw [this, ← opt_is] at q
    exact s_ret (ev_op (ev_first_inner (ea_cons (ev_var rfl) (ea_cons (ev_var rfl) ea_nil)) (ex_t e1 hs) gk (ex_l e1 hc)) ev_c rv_isN) fun H2 e2 => q H2 (e1.trans e2)

/-! ### instances -/
/-- what a class of the text has: plain gets and stores, these names not among its attributes -/
structure Cf (K : PySem.W.Frag) (c : Addr) (fs : List Str) : Prop where
  cl : Cls K c
  no : ∀ f ∈ fs, NoAttr K c f
theorem lk_self {f : Str} {v : V} {r : List (Str × V)} : List.lookup f ((f, v) :: r) = some v := List.lookup_cons_self
theorem lk_ne {f g : Str} {v : V} {r : List (Str × V)} (h : ¬ g = f) : List.lookup g ((f, v) :: r) = List.lookup g r := by
  have hb : (g == f) = false := beq_eq_false_iff_ne.mpr h
  simp only [List.lookup, hb]
theorem lk_nil {g : Str} : List.lookup g ([] : List (Str × V)) = none := rfl
theorem put_ne {f g : Str} {v u : V} (h : ¬ f = g) : putF g u [(f, v)] = [(f, v), (g, u)] := by
  show (if f = g then [(f, u)] else (f, v) :: putF g u []) = _
  rw [if_neg h]
  rfl
theorem one_other : ¬ (("one" : Str) = "other") := by decide +kernel
theorem other_one : ¬ (("other" : Str) = "one") := by decide +kernel
theorem shows_one : ¬ (("shows" : Str) = "one") := by decide +kernel
theorem shows_other : ¬ (("shows" : Str) = "other") := by decide +kernel
theorem shows_cell : ¬ (("shows" : Str) = "cell") := by decide +kernel
theorem shows_cells : ¬ (("shows" : Str) = "cells") := by decide +kernel
section
variable {K : PySem.W.Frag} {σ : L2.St} {H H' : Hp} {ta tv te : TE} {D : Ends} {tz : TS} {p c dx : Addr} {fs : List (Str × V)} {f : Str} {ns : List Str} {v : V} {xs : List V}
theorem ev_fld (ha : Ev ta σ H (.ref p)) (hp : H p = some (.ins c dx fs)) (k : Cf K c ns) (hf : f ∈ ns) (hl : fs.lookup f = some v) : Ev (tFld K ta f) σ H v := fun H1 e Q q =>
  ha H1 e _ fun H2 e2 => ⟨p, c, dx, fs, v, rfl, e2 _ _ (e _ _ hp), k.cl, k.no f hf, hl, q H2 e2⟩
theorem s_fld (hv : Ev tv σ H v) (ha : Ev ta σ H (.ref p)) (hp : H p = some (.ins c dx fs)) (k : Cf K c ns) (hf : f ∈ ns) (hl : fs.length < 1000) (h : ∀ H1, Ex H H1 → D.nx σ (upd H1 p (.ins c dx (putF f v fs)))) : sFld K ta tv f D σ H :=
  hv H (Ex.refl H) _ fun H1 e1 => ha H1 e1 _ fun H2 e2 => ⟨p, c, dx, fs, rfl, e2 _ _ (e1 _ _ hp), k.cl, k.no f hf, hl, h H2 (e1.trans e2)⟩
theorem q_fld (hv : Ev tv σ H v) (ha : Ev ta σ H (.ref p)) (hp : H p = some (.ins c dx fs)) (k : Cf K c ns) (hf : f ∈ ns) (hl : fs.length < 1000) (h : ∀ H1, Ex H H1 → tz D σ (upd H1 p (.ins c dx (putF f v fs)))) : tSeq (sFld K ta tv f) tz D σ H :=
  s_fld (D := { D with nx := tz D }) hv ha hp k hf hl h
theorem s_fldL (hv : EvL tv σ H xs) (ha : Ev ta σ H (.ref p)) (hp : H p = some (.ins c dx fs)) (k : Cf K c ns) (hf : f ∈ ns) (hl : fs.length < 1000) (h : ∀ l H1, H l = none → Ex H H1 → H1 l = some (.lst xs) → D.nx σ (upd H1 p (.ins c dx (putF f (.ref l) fs)))) : sFld K ta tv f D σ H :=
  hv H (Ex.refl H) _ fun l H1 hl1 e1 h1 => ha H1 e1 _ fun H2 e2 => ⟨p, c, dx, fs, rfl, e2 _ _ (e1 _ _ hp), k.cl, k.no f hf, hl, h l H2 hl1 (e1.trans e2) (e2 _ _ h1)⟩
theorem q_fldL (hv : EvL tv σ H xs) (ha : Ev ta σ H (.ref p)) (hp : H p = some (.ins c dx fs)) (k : Cf K c ns) (hf : f ∈ ns) (hl : fs.length < 1000) (h : ∀ l H1, H l = none → Ex H H1 → H1 l = some (.lst xs) → tz D σ (upd H1 p (.ins c dx (putF f (.ref l) fs)))) : tSeq (sFld K ta tv f) tz D σ H :=
  s_fldL (D := { D with nx := tz D }) hv ha hp k hf hl h
end
/-- a new instance of the class c with these fields -/
def NewI (c : Addr) (fs : List (Str × V)) (H1 : Hp) (v : V) (H2 : Hp) : Prop := ∃ p dx, v = .ref p ∧ H1 p = none ∧ H2 p = some (.ins c dx fs)
theorem NewI.back {c : Addr} {fs : List (Str × V)} {H0 H1 H2 : Hp} {v : V} (e : Ex H0 H1) (h : NewI c fs H1 v H2) : NewI c fs H0 v H2 := by
  obtain ⟨p, dx, rfl, hp, h2⟩ := h
  exact ⟨p, dx, rfl, fresh_back e hp, h2⟩
theorem NewI.on {c : Addr} {fs : List (Str × V)} {H1 H2 H3 : Hp} {v : V} (e : Ex H2 H3) (h : NewI c fs H1 v H2) : NewI c fs H1 v H3 := by
  obtain ⟨p, dx, rfl, hp, h2⟩ := h
  exact ⟨p, dx, rfl, hp, e _ _ h2⟩
theorem ep_bare {c : Addr} {σ : L2.St} {H : Hp} : EvP (tBare c) σ H (NewI c []) := fun H1 e Q q x dx hx hdx ne =>
  q _ _ (fun a o ha => by rw [upd_ne (ne_of_none ha hx), upd_ne (ne_of_none ha hdx)]; exact ha) ⟨x, dx, rfl, hx, upd_same⟩
/-- all but p stays -/
def ButP (p : Addr) (H H2 : Hp) : Prop := ∀ a o, a ≠ p → H a = some o → H2 a = some o
theorem made_ex {H H2 : Hp} {x dx c : Addr} (hx : H x = none) (hdx : H dx = none) (h : ButP x (upd (upd H dx (.own x)) x (.ins c dx [])) H2) : Ex H H2 := fun a o ha => by
  have n1 := ne_of_none ha hx
  refine h a o n1 ?_
  rw [upd_ne n1, upd_ne (ne_of_none ha hdx)]
  exact ha
/-! ### Ring -/
def sp_Ring_shows (K : PySem.W.Frag) : Sp := fun vs H Q _ => ∃ p g c h w cs, vs = [.ref p, .ref g, .ref c] ∧ SqT K H g [.int ((h : Nat) : Int), .int ((w : Nat) : Int)] ∧ GOk h w ∧ SqL K H c ((cs : List Int).map V.int) ∧ cs ≠ [] ∧ cs.length ≤ 1000 ∧ RetV (.bl (isRing h w cs)) H Q
def t_Ring_shows (K : PySem.W.Frag) : TS := (tRet (tCall (sp_is_ring K) [] E0 (tCons (tVar 1) (tCons (tVar 2) tNil))))
theorem pure_Ring_shows {K : PySem.W.Frag} {vs : List V} {H : Hp} {Q : VK} {E : XK} {D : Ends} (hD : D.rt = Q) (h : sp_Ring_shows K vs H Q E) : t_Ring_shows K D (start ["self", "grid", "cells"] vs) H := by
  obtain ⟨p, g, c, h, w, cs, rfl, hs, gk, hc, hn, hl, q⟩ := h
  subst hD
  change t_Ring_shows K D [some (.ref p), some (.ref g), some (.ref c)] H
  exact s_ret (ev_is_ring (ea_cons (ev_var rfl) (ea_cons (ev_var rfl) ea_nil)) hs gk hc hn hl) fun H1 e1 => q H1 e1
/-! ### Split -/
def flds2 (u v : V) : List (Str × V) := [("one", u), ("other", v)]
theorem flds2_one {u v : V} : (flds2 u v).lookup ("one" : Str) = some u := lk_self
theorem flds2_other {u v : V} : (flds2 u v).lookup ("other" : Str) = some v := (lk_ne other_one).trans lk_self
theorem flds2_shows {u v : V} : (flds2 u v).lookup ("shows" : Str) = none := (lk_ne shows_one).trans (lk_ne shows_other)
def sp_Split_init (K : PySem.W.Frag) (C : Ad) : Sp := fun vs H Q _ => ∃ p dx u v, vs = [.ref p, u, v] ∧ H p = some (.ins C.cSplit dx []) ∧ ∀ H2, ButP p H H2 → H2 p = some (.ins C.cSplit dx (flds2 u v)) → Q .non H2
def t_Split_init (K : PySem.W.Frag) : TS := (tSeq (sFld K (tVar 0) (tVar 1) "one")
      (sFld K (tVar 0) (tVar 2) "other"))
theorem pure_Split_init {K : PySem.W.Frag} {C : Ad} {vs : List V} {H : Hp} {Q : VK} {E : XK} {D : Ends} (hD : D.nx = fun _ H' => Q .non H') (cf_Split : Cf K C.cSplit ["one", "other"]) (h : sp_Split_init K C vs H Q E) : t_Split_init K D (start ["self", "one", "other"] vs) H := by
  obtain ⟨p, dx, u, v, rfl, hp, q⟩ := h
  change t_Split_init K D [some (.ref p), some u, some v] H
  refine q_fld (ev_var rfl) (ev_var rfl) hp cf_Split (by simp) (by simp) fun H1 e1 => ?_
  refine s_fld (ev_var rfl) (ev_var rfl) upd_same cf_Split (by simp) (by simp [putF]) fun H2 e2 => ?_
  rw [hD]
  refine q _ (fun a o ne ha => ?_) ?_
  · rw [upd_ne ne]
    refine e2 _ _ ?_
    rw [upd_ne ne]
    exact e1 _ _ ha
  · rw [upd_same]
    exact congrArg (fun z => some (HO.ins C.cSplit dx z)) (put_ne one_other)
theorem ep_Split {K : PySem.W.Frag} {C : Ad} {σ : L2.St} {H : Hp} {ta : TA} {E : XK} {u v : V} (ha : EvA ta σ H [u, v]) : EvP (tMake C.cSplit (sp_Split_init K C) [] E ta) σ H (NewI C.cSplit (flds2 u v)) := fun H1 e Q q =>
  ha H1 e _ fun H2 e2 x dx hx hdx ne => ⟨x, dx, u, v, rfl, upd_same, fun H3 b h3 => ⟨rfl, q _ H3 (e2.trans (made_ex hx hdx b)) ⟨x, dx, rfl, fresh_back e2 hx, h3⟩⟩⟩
def splitShows (h w : Nat) (cs : List Int) (x y : Int) : Bool := (decide (x ∈ cs) && decide (y ∈ cs)) && !decide (y ∈ spread h w x cs)
def sp_Split_shows (K : PySem.W.Frag) (C : Ad) : Sp := fun vs H Q _ => ∃ p g c h w cs dx x y, vs = [.ref p, .ref g, .ref c] ∧ H p = some (.ins C.cSplit dx (flds2 (.int x) (.int y))) ∧ SqT K H g [.int ((h : Nat) : Int), .int ((w : Nat) : Int)] ∧ GOk h w ∧ SqL K H c ((cs : List Int).map V.int) ∧ cs.length ≤ 1000 ∧ RetV (.bl (splitShows h w cs x y)) H Q
def t_Split_shows (K : PySem.W.Frag) : TS := (tSeq (tIfS (tOr (tTest (tOp (rIn K true) (tFld K (tVar 0) "one") (tVar 2))) (tTest (tOp (rIn K true) (tFld K (tVar 0) "other") (tVar 2)))) (tRet (tC (.bl false))) tNext)
      (tRet (tOp (rIn K true) (tFld K (tVar 0) "other") (tCall (sp_spread K) [] E0 (tCons (tVar 1) (tCons (tFld K (tVar 0) "one") (tCons (tVar 2) tNil)))))))
theorem pure_Split_shows {K : PySem.W.Frag} {C : Ad} {vs : List V} {H : Hp} {Q : VK} {E : XK} {D : Ends} (hD : D.rt = Q) (cf_Split : Cf K C.cSplit ["one", "other"]) (h : sp_Split_shows K C vs H Q E) : t_Split_shows K D (start ["self", "grid", "cells"] vs) H := by
  obtain ⟨p, g, c, h, w, cs, dx, x, y, rfl, hp, hs, gk, hc, hl, q⟩ := h
  subst hD
  change t_Split_shows K D [some (.ref p), some (.ref g), some (.ref c)] H
  have f1 : ∀ {H1}, Ex H H1 → Ev (tFld K (tVar 0) "one") [some (.ref p), some (.ref g), some (.ref c)] H1 (.int x) := fun e => ev_fld (ev_var rfl) (e _ _ hp) cf_Split (by simp) flds2_one
  have f2 : ∀ {H1}, Ex H H1 → Ev (tFld K (tVar 0) "other") [some (.ref p), some (.ref g), some (.ref c)] H1 (.int y) := fun e => ev_fld (ev_var rfl) (e _ _ hp) cf_Split (by simp) flds2_other
  refine q_when (et_or (et_test (ev_notIn (f1 (Ex.refl H)) (es_of (ev_var rfl) hc))) (fun _ => et_test (ev_notIn (f2 (Ex.refl H)) (es_of (ev_var rfl) hc)))) (fun hb H1 e1 => ?_) (fun hb H1 e1 => ?_)
  · have : splitShows h w cs x y = false := by
      unfold splitShows
      rcases Bool.or_eq_true _ _ ▸ hb with z | z
      · have : decide (x ∈ cs) = false := by simpa using z
        rw [this]; rfl
      · have : decide (y ∈ cs) = false := by simpa using z
        rw [this, Bool.and_false]; rfl
    rw [this] at q
    exact s_ret ev_c fun H2 e2 => q H2 (e1.trans e2)
  · have : splitShows h w cs x y = !decide (y ∈ spread h w x cs) := by
      unfold splitShows
      have hb := (Bool.or_eq_false_iff.mp hb)
      have z1 : decide (x ∈ cs) = true := by simpa using hb.1
      have z2 : decide (y ∈ cs) = true := by simpa using hb.2
      rw [z1, z2]; rfl
    rw [this] at q
    have sp := el_spread (E := E0) (K := K) (x := x) (ta := tCons (tVar 1) (tCons (tFld K (tVar 0) "one") (tCons (tVar 2) tNil))) (ea_cons (ev_var rfl) (ea_cons (f1 e1) (ea_cons (ev_var rfl) ea_nil))) (ex_t e1 hs) gk (ex_l e1 hc) hl
    exact s_ret (ev_notIn (f2 e1) (es_new sp)) fun H2 e2 => q H2 (e1.trans e2)
/-! ### Hole -/
def flds1 (u : V) : List (Str × V) := [("cell", u)]
theorem flds1_cell {u : V} : (flds1 u).lookup ("cell" : Str) = some u := lk_self
theorem flds1_shows {u : V} : (flds1 u).lookup ("shows" : Str) = none := lk_ne shows_cell
def sp_Hole_init (K : PySem.W.Frag) (C : Ad) : Sp := fun vs H Q _ => ∃ p dx u, vs = [.ref p, u] ∧ H p = some (.ins C.cHole dx []) ∧ ∀ H2, ButP p H H2 → H2 p = some (.ins C.cHole dx (flds1 u)) → Q .non H2
def t_Hole_init (K : PySem.W.Frag) : TS := (sFld K (tVar 0) (tVar 1) "cell")
theorem pure_Hole_init {K : PySem.W.Frag} {C : Ad} {vs : List V} {H : Hp} {Q : VK} {E : XK} {D : Ends} (hD : D.nx = fun _ H' => Q .non H') (cf_Hole : Cf K C.cHole ["cell"]) (h : sp_Hole_init K C vs H Q E) : t_Hole_init K D (start ["self", "cell"] vs) H := by
  obtain ⟨p, dx, u, rfl, hp, q⟩ := h
  change t_Hole_init K D [some (.ref p), some u] H
  refine s_fld (ev_var rfl) (ev_var rfl) hp cf_Hole (by simp) (by simp) fun H1 e1 => ?_
  rw [hD]
  refine q _ (fun a o ne ha => ?_) ?_
  · rw [upd_ne ne]
    exact e1 _ _ ha
  · rw [upd_same]
    rfl
theorem ep_Hole {K : PySem.W.Frag} {C : Ad} {σ : L2.St} {H : Hp} {ta : TA} {E : XK} {u : V} (ha : EvA ta σ H [u]) : EvP (tMake C.cHole (sp_Hole_init K C) [] E ta) σ H (NewI C.cHole (flds1 u)) := fun H1 e Q q =>
  ha H1 e _ fun H2 e2 x dx hx hdx ne => ⟨x, dx, u, rfl, upd_same, fun H3 b h3 => ⟨rfl, q _ H3 (e2.trans (made_ex hx hdx b)) ⟨x, dx, rfl, fresh_back e2 hx, h3⟩⟩⟩
def holeShows (h w : Nat) (cs : List Int) (x : Int) : Bool := (!decide (x ∈ cs) && (decide (0 ≤ x) && decide (x < (h : Int) * w))) && isInner h w cs x
def sp_Hole_shows (K : PySem.W.Frag) (C : Ad) : Sp := fun vs H Q _ => ∃ p g c h w cs dx x, vs = [.ref p, .ref g, .ref c] ∧ H p = some (.ins C.cHole dx (flds1 (.int x))) ∧ SqT K H g [.int ((h : Nat) : Int), .int ((w : Nat) : Int)] ∧ GOk h w ∧ SqL K H c ((cs : List Int).map V.int) ∧ RetV (.bl (holeShows h w cs x)) H Q
def t_Hole_shows (K : PySem.W.Frag) : TS := (tSeq (tIfS (tOr (tTest (tOp (rIn K false) (tFld K (tVar 0) "cell") (tVar 2))) (tNot (tTest (tChain oLe oLt (tC (.int 0)) (tFld K (tVar 0) "cell") (tOp oMul (tOp (rIxT K) (tVar 1) (tC (.int 0))) (tOp (rIxT K) (tVar 1) (tC (.int 1)))))))) (tRet (tC (.bl false))) tNext)
      (tRet (tCall (sp_is_inner K) [] E0 (tCons (tVar 1) (tCons (tVar 2) (tCons (tFld K (tVar 0) "cell") tNil))))))
theorem pure_Hole_shows {K : PySem.W.Frag} {C : Ad} {vs : List V} {H : Hp} {Q : VK} {E : XK} {D : Ends} (hD : D.rt = Q) (cf_Hole : Cf K C.cHole ["cell"]) (h : sp_Hole_shows K C vs H Q E) : t_Hole_shows K D (start ["self", "grid", "cells"] vs) H := by
  obtain ⟨p, g, c, h, w, cs, dx, x, rfl, hp, hs, gk, hc, q⟩ := h
  subst hD
  change t_Hole_shows K D [some (.ref p), some (.ref g), some (.ref c)] H
  have gb := gk
  obtain ⟨g1, g2, g3, g4⟩ := gb
  have f1 : ∀ {H1}, Ex H H1 → Ev (tFld K (tVar 0) "cell") [some (.ref p), some (.ref g), some (.ref c)] H1 (.int x) := fun e => ev_fld (ev_var rfl) (e _ _ hp) cf_Hole (by simp) flds1_cell
  have hm : Ev (tOp oMul (tOp (rIxT K) (tVar 1) (tC (.int 0))) (tOp (rIxT K) (tVar 1) (tC (.int 1)))) [some (.ref p), some (.ref g), some (.ref c)] H (.int ((h : Int) * w)) := by walk_at "ev"
  refine q_when (et_or (et_test (ev_isIn (f1 (Ex.refl H)) (es_of (ev_var rfl) hc))) (fun _ => et_not (et_test (ev_chain (x := .int 0) ev_c (f1 (Ex.refl H)) rv_I0 (fun _ => hm) (fun _ => rv_I0))))) (fun hb H1 e1 => ?_) (fun hb H1 e1 => ?_)
  · have : holeShows h w cs x = false := by
      unfold holeShows
      rcases Bool.or_eq_true _ _ ▸ hb with z | z
      · rw [z]; rfl
      · rw [Bool.not_eq_true'] at z
        rw [z, Bool.and_false]; rfl
    rw [this] at q
    exact s_ret ev_c fun H2 e2 => q H2 (e1.trans e2)
  · have : holeShows h w cs x = isInner h w cs x := by
      unfold holeShows
      have hb := (Bool.or_eq_false_iff.mp hb)
      rw [hb.1, show (decide (0 ≤ x) && decide (x < (h : Int) * w)) = true by simpa using hb.2]; rfl
    rw [this] at q
    exact s_ret (ev_is_inner (ea_cons (ev_var rfl) (ea_cons (ev_var rfl) (ea_cons (f1 e1) ea_nil))) (ex_t e1 hs) gk (ex_l e1 hc)) fun H2 e2 => q H2 (e1.trans e2)

/-! ### lists of lists by addresses and rows -/
def toV (b : Addr × List Int) : V := .ref b.1
theorem paired_bs {F : Addr → List V → Prop} : ∀ {ps : List Addr} {nss : List (List Int)}, Paired F ps (ints2 nss) → ∃ bs : List (Addr × List Int), ps = bs.map (·.1) ∧ nss = bs.map (·.2) ∧ ∀ b ∈ bs, F b.1 (b.2.map V.int)
  | [], [], .nil => ⟨[], rfl, rfl, fun b hb => nomatch hb⟩
  | p :: ps, ns :: nss, .cons h hs => by
    obtain ⟨bs, rfl, rfl, hb⟩ := paired_bs hs
    exact ⟨(p, ns) :: bs, rfl, rfl, fun b m => by
      rcases List.mem_cons.mp m with rfl | m
      · exact h
      · exact hb b m⟩
theorem bs_paired {F : Addr → List V → Prop} : ∀ {bs : List (Addr × List Int)}, (∀ b ∈ bs, F b.1 (b.2.map V.int)) → Paired F (bs.map (·.1)) (ints2 (bs.map (·.2)))
  | [], _ => .nil
  | b :: bs, h => .cons (h b List.mem_cons_self) (bs_paired fun c m => h c (List.mem_cons_of_mem _ m))
theorem NewLL.bs {H1 H2 : Hp} {v : V} {nss : List (List Int)} (h : NewLL H1 v H2 (ints2 nss)) : ∃ p, ∃ bs : List (Addr × List Int), v = .ref p ∧ H1 p = none ∧ H2 p = some (.lst (bs.map toV)) ∧ nss = bs.map (·.2) ∧ ∀ b ∈ bs, H1 b.1 = none ∧ H2 b.1 = some (.lst (b.2.map V.int)) := by
  obtain ⟨p, ps, rfl, hp, h2, hr⟩ := h
  obtain ⟨bs, rfl, rfl, hb⟩ := paired_bs hr
  exact ⟨p, bs, rfl, hp, by rw [List.map_map] at h2; exact h2, rfl, hb⟩
theorem NewLL.of {H1 H2 : Hp} {p : Addr} {bs : List (Addr × List Int)} (hp : H1 p = none) (h2 : H2 p = some (.lst (bs.map toV))) (hb : ∀ b ∈ bs, H1 b.1 = none ∧ H2 b.1 = some (.lst (b.2.map V.int))) : NewLL H1 (.ref p) H2 (ints2 (bs.map (·.2))) :=
  ⟨p, bs.map (·.1), rfl, hp, by rw [List.map_map]; exact h2, bs_paired (F := fun q xs => H1 q = none ∧ H2 q = some (.lst xs)) hb⟩
/-- rows of ints at an address, to be read -/
def RowsAt (K : PySem.W.Frag) (H : Hp) (a : Addr) (nss : List (List Int)) : Prop := ∃ rs : List Addr, SqL K H a (rs.map V.ref) ∧ Paired (fun (r : Addr) (ns : List Int) => SqL K H r (ns.map V.int)) rs nss
theorem RowsAt.mono {K : PySem.W.Frag} {H H' : Hp} {a : Addr} {nss : List (List Int)} (e : Ex H H') (h : RowsAt K H a nss) : RowsAt K H' a nss := by
  obtain ⟨rs, h1, h2⟩ := h
  exact ⟨rs, ex_l e h1, Paired.mapP h2 fun r ns z => ex_l e z⟩
theorem dpAll_rowsAt {K : PySem.W.Frag} {H : Hp} : ∀ {rs : List Addr} {nss : List (List Int)}, Paired (fun (r : Addr) (ns : List Int) => SqL K H r (ns.map V.int)) rs nss → DpAll K H (rs.map V.ref) (nss.map dI)
  | [], [], .nil => .nil
  | _ :: _, _ :: _, .cons h hs => .cons (dp_ints h) (dpAll_rowsAt hs)
theorem RowsAt.dp {K : PySem.W.Frag} {H : Hp} {a : Addr} {nss : List (List Int)} (h : RowsAt K H a nss) : Dp K H (.ref a) (dII nss) := by
  obtain ⟨rs, h1, h2⟩ := h
  exact .lst h1 (dpAll_rowsAt h2)
section
variable {K : PySem.W.Frag} {σ : L2.St} {H H' : Hp} {ta tb tc te tl : TE} {t : TT} {D : Ends} {tu tz : TS}
/-- [x for x in rows if t], rows new lists of ints -/
theorem ep_lcRows {j : Nat} {vs : List Nat} {nss : List (List Int)} (f : List Int → Bool) (h : EvP tl σ H (fun H1 v H2 => NewLL H1 v H2 (ints2 nss))) (hz : nss.length ≤ 40000) (hw : ∀ x, wipe ((wipe σ vs).set j (some x)) vs = wipe σ vs) (hj : ∀ x : V, ((wipe σ vs).set j (some x))[j]? = some (some x))
    (ht : ∀ (ns : List Int) q H1, Ex H H1 → ns ∈ nss → H1 q = some (.lst (ns.map V.int)) → EvT t ((wipe σ vs).set j (some (.ref q))) H1 (f ns)) :
    EvP (tLc (iList K tl) (gName j) t (tVar j) vs) σ H (fun H1 v H2 => NewLL H1 v H2 (ints2 (nss.filter f))) := fun H0 e Q q => h H0 e _ fun v H1 e1 hv => by
  obtain ⟨p, bs, rfl, hp, h1, rfl, hb⟩ := hv.bs
  rw [List.length_map] at hz
  refine ⟨p, rfl, ⟨_, sq_of h1⟩, fun Dl hD => lc_list (xs := bs.map toV) (fun n H' => H1 Dl = none ∧ Ex H1 H' ∧ H' Dl = some (.lst (((bs.take n).filter fun b => f b.2).map toV))) ⟨hD, Ex.new hD, upd_same⟩ (fun i H' _ p => sq_of (p.2.1 _ _ h1)) (fun i x H' hi p => ?_) (fun H' p => ?_)⟩
  · rw [List.getElem?_map] at hi
    obtain ⟨b, hbi, rfl⟩ := Option.map_eq_some_iff.mp hi
    have hm : b ∈ bs := List.mem_of_getElem? hbi
    obtain ⟨p1, p2, p3⟩ := p
    refine ⟨hw _, ht b.2 b.1 H1 (e.trans e1) (List.mem_map.mpr ⟨b, hm, rfl⟩) (hb b hm).2 H' p2 _ fun H3 e3 => ?_⟩
    have e2 : ((bs.take (i + 1)).filter fun b => f b.2).map toV = ((bs.take i).filter fun b => f b.2).map toV ++ if f b.2 = true then [toV b] else [] := by
      rw [take_snoc hbi, List.filter_append, List.map_append]
      congr 1
      cases hf : f b.2 <;> simp [hf]
    have hlen : (((bs.take i).filter fun b => f b.2).map toV).length < 100000 := by
      rw [List.length_map]
      have h1 := List.length_filter_le (fun b : Addr × List Int => f b.2) (bs.take i)
      have h2 : (bs.take i).length ≤ bs.length := by rw [List.length_take]; omega
      omega
    rw [e2]
    cases hf : f b.2 with
    | true =>
      rw [if_pos rfl, if_pos rfl]
      exact ⟨toV b, hj _, _, e3 _ _ p3, sz_lt hlen, p1, Ex.mut (p2.trans e3) p1, upd_same⟩
    | false =>
      rw [if_neg (by decide), if_neg (by decide), List.append_nil]
      exact ⟨p1, p2.trans e3, e3 _ _ p3⟩
  · rw [List.length_map, List.take_length] at p
    obtain ⟨p1, p2, p3⟩ := p
    refine q _ H' (e1.trans p2) ?_
    have hE : (bs.map (·.2)).filter f = (bs.filter fun b => f b.2).map (·.2) := by
      rw [List.filter_map]
      rfl
    rw [hE]
    exact NewLL.of (fresh_back e1 p1) p3 fun b hm => by
      have hm := (List.mem_filter.mp hm).1
      exact ⟨(hb b hm).1, p2 _ _ (hb b hm).2⟩
/-- for x, y in zip(xs, ys) of one length -/
theorem s_forZ {a b : Addr} {xs ys : List V} {i j : Nat} (ha : Ev ta σ H (.ref a)) (hb : Ev tb σ H (.ref b)) (hx : SqL K H a xs) (hy : SqL K H b ys) (hl : xs.length = ys.length) (Pv : Nat → L2.St → Hp → Prop) (h0 : ∀ H1, Ex H H1 → Pv 0 σ H1) (hq : ∀ n σ' H', Pv n σ' H' → Ex H H')
    (hs : ∀ n x y σ' H' T, xs[n]? = some x → ys[n]? = some y → Pv n σ' H' → H' T = none → tu { D with nx := Pv (n + 1), ct := Pv (n + 1), bk := D.nx } ((σ'.set i (some x)).set j (some y)) (upd H' T (.tup [x, y]))) (hd : ∀ σ' H', Pv xs.length σ' H' → D.nx σ' H') :
    tFor (iZip K (tCons ta (tCons tb tNil))) (gTup K 2 (gCons (gName i) (gCons (gName j) gNil))) tu D σ H :=
  ha H (Ex.refl H) _ fun H1 e1 => hb H1 e1 _ fun H2 e2 => ⟨a, b, xs, ys, rfl, ex_l (e1.trans e2) hx, ex_l (e1.trans e2) hy, RZ.for_zipL hl Pv (h0 H2 (e1.trans e2)) (fun n σ' H' p => ⟨ex_l (hq n σ' H' p) hx, ex_l (hq n σ' H' p) hy⟩)
    (fun n x y T σ' H' gx gy p hT => ⟨T, [x, y], rfl, st_of upd_same, rfl, x, [y], rfl, y, [], rfl, rfl, hs n x y σ' H' T gx gy p hT⟩) hd⟩
theorem q_forZ {a b : Addr} {xs ys : List V} {i j : Nat} (ha : Ev ta σ H (.ref a)) (hb : Ev tb σ H (.ref b)) (hx : SqL K H a xs) (hy : SqL K H b ys) (hl : xs.length = ys.length) (Pv : Nat → L2.St → Hp → Prop) (h0 : ∀ H1, Ex H H1 → Pv 0 σ H1) (hq : ∀ n σ' H', Pv n σ' H' → Ex H H')
    (hs : ∀ n x y σ' H' T, xs[n]? = some x → ys[n]? = some y → Pv n σ' H' → H' T = none → tu { D with nx := Pv (n + 1), ct := Pv (n + 1), bk := tz D } ((σ'.set i (some x)).set j (some y)) (upd H' T (.tup [x, y]))) (hd : ∀ σ' H', Pv xs.length σ' H' → tz D σ' H') :
    tSeq (tFor (iZip K (tCons ta (tCons tb tNil))) (gTup K 2 (gCons (gName i) (gCons (gName j) gNil))) tu) tz D σ H := s_forZ (D := { D with nx := tz D }) ha hb hx hy hl Pv h0 hq hs hd
/-- sorted(rows) -/
theorem ep_sortedRows {bs : List (Addr × List Int)} {a : Addr} (ha : Ev ta σ H (.ref a)) (h : SqL K H a (bs.map toV)) (hb : ∀ b ∈ bs, SqL K H b.1 (b.2.map V.int)) :
    EvP (tCB (rSortV dI K) (tCons ta tNil)) σ H (fun H1 v H2 => ∃ p, v = .ref p ∧ H1 p = none ∧ H2 p = some (.lst ((bs.mergeSort fun p q => decide (p.2 ≤ q.2)).map toV))) := fun H1 e Q q => ha H1 e _ fun H2 e2 => by
  have e12 := e.trans e2
  refine ⟨a, bs.map fun b => (toV b, b.2), rfl, ?_, fun c hc => ?_, ?_, ?_, fun c hc => ?_, fun p hp => ?_⟩
  · rw [List.map_map]
    exact ex_l e12 h
  · obtain ⟨b, hm, rfl⟩ := List.mem_map.mp hc
    exact dp_ints (ex_l e12 (hb b hm))
  · exact PySem.W.AllAlike.of (enc := fun b : V × List Int => dI b.2) fun b b' => by
      show PySem.W.alike (.list _) (.list _) = true
      rw [PySem.W.alike]
      exact PySem.W.alike_ints _ _
  · exact PySem.W.Sortable.others (enc := fun b : V × List Int => dI b.2) fun b => ⟨fun z => PyData.noConfusion z, fun xs z => PyData.noConfusion z⟩
  · show (dI c.2).depth ≤ 40
    unfold dI
    rw [PyData.depth]
    have := depth_ints c.2
    omega
  · have e3 : ((bs.map fun b => (toV b, b.2)).mergeSort (PySem.W.dataLe false fun b => dI b.2)).map (·.1) = (bs.mergeSort fun p q => decide (p.2 ≤ q.2)).map toV := by
      have d := PySem.W.dataLe_rows (β := V × List Int) (fun b => b.2)
      have d2 : (PySem.W.dataLe false fun b : V × List Int => dI b.2) = fun p q => decide (p.2 ≤ q.2) := d
      rw [d2, ← List.map_mergeSort (r := fun p q : Addr × List Int => decide (p.2 ≤ q.2)) (f := fun b : Addr × List Int => (toV b, b.2)) (fun _ _ _ _ => rfl), List.map_map]
      rfl
    rw [e3]
    exact q _ _ (e2.trans (Ex.new hp)) ⟨p, rfl, fresh_back e2 hp, upd_same⟩
end
/-! ### all_rings -/
def sp_all_rings (K : PySem.W.Frag) : Sp := fun vs H Q _ => ∃ g h w, vs = [.ref g] ∧ SqT K H g [.int ((h : Nat) : Int), .int ((w : Nat) : Int)] ∧ GOk h w ∧ h * w ≤ 9 ∧ RetP (fun H1 v H2 => NewLL H1 v H2 (ints2 (allRings h w))) H Q
theorem ep_all_rings {K : PySem.W.Frag} {σ : L2.St} {H : Hp} {ta : TE} {E : XK} {h w : Nat} (ha : EvST K ta σ H [.int (h : Int), .int (w : Int)]) (gk : GOk h w) (hm : h * w ≤ 9) : EvP (tCall (sp_all_rings K) [] E (tCons ta tNil)) σ H (fun H1 v H2 => NewLL H1 v H2 (ints2 (allRings h w))) := fun H1 e Q q =>
  ha H1 e _ fun g H2 e2 hg => ⟨g, h, w, rfl, hg, gk, hm, fun v H3 e3 z => q v H3 (e2.trans e3) (z.back e2)⟩
def t_all_rings (K : PySem.W.Frag) : TS := (tSeq (tPar 1 2 (tCons (tOp oMul (tOp (rIxT K) (tVar 0) (tC (.int 0))) (tOp (rIxT K) (tVar 0) (tC (.int 1)))) (tCons (tLst tNil) tNil)))
      (tSeq (tFor (iRng2 (tCons (tC (.int 1)) (tCons (tOp oShl (tC (.int 1)) (tVar 1)) tNil))) (gName 3) (tSeq (tAsg (tLc (iRng1 (tCons (tVar 1) tNil)) (gName 5) (tTest (tOp rEq (tOp oAnd (tOp oShr (tVar 3) (tVar 5)) (tC (.int 1))) (tC (.int 1)))) (tVar 5) [5]) (gName 4))
      (tIfS (tB (tCall (sp_is_ring K) [] E0 (tCons (tVar 0) (tCons (tVar 4) tNil)))) (tDrop (tBM K "list" rAppend (tVar 2) (tCons (tVar 4) tNil))) tNext)))
      (tRet (tCB (rSortV dI K) (tCons (tVar 2) tNil)))))
theorem pure_all_rings {K : PySem.W.Frag} {vs : List V} {H : Hp} {Q : VK} {E : XK} {D : Ends} (hD : D.rt = Q) (h : sp_all_rings K vs H Q E) : t_all_rings K D (start ["grid", "many", "found", "number", "cells", "cell"] vs) H := by
  obtain ⟨g, h, w, rfl, hs, gk, hm, q⟩ := h
  subst hD
  change t_all_rings K D [some (.ref g), none, none, none, none, none] H
  have gb := gk
  obtain ⟨g1, g2, g3, g4⟩ := gb
  have hwl := hw_le gk
  have cast : ((h * w : Nat) : Int) = (h : Int) * w := Int.natCast_mul h w
  have p9 := pow_le9 hm
  have p1 : 1 ≤ 2 ^ (h * w) := Nat.one_le_two_pow
  refine q_parL (i := 1) (j := 2) (x := .int ((h : Int) * w)) (xs := []) (by walk_at "ev") (el_lst ea_nil (by simp)) fun p H1 hp e1 h1 => ?_
  have shl : ((1 : Int) * 2 ^ ((h : Int) * w).toNat) = ((2 ^ (h * w) : Nat) : Int) := by
    rw [Int.one_mul, ← cast, Int.toNat_natCast]
    exact (Int.natCast_pow 2 (h * w)).symm
  refine q_forR2 (j := 3) (lo := 1) (n := ((2 ^ (h * w) : Nat) : Int)) (ea_cons ev_c (ea_cons (by rw [← shl]; exact ev_op (ev_c (v := .int 1)) (ev_var rfl) (rv_I ⟨by omega, by omega, by decide⟩)) ea_nil)) ⟨by decide, by decide, by omega, by omega⟩
    (fun i σ' H' => ∃ y3 y4, σ' = [some (.ref g), some (.int ((h : Int) * w)), some (.ref p), y3, y4, none] ∧ Ex H H' ∧ ∃ bs : List (Addr × List Int), H' p = some (.lst (bs.map toV)) ∧ bs.map (·.2) = ringsTo h w i ∧ ∀ b ∈ bs, (H b.1 = none ∧ b.1 ≠ p) ∧ H' b.1 = some (.lst (b.2.map V.int)))
    (fun H2 e2 => ⟨none, none, rfl, e1.trans e2, [], e2 _ _ h1, rfl, fun b hb => nomatch hb⟩) (fun i σ' H' hi hP => ?_) (fun σ' H' hP => ?_)
  · obtain ⟨y3, y4, rfl, e2, bs, h2, hbs, hb⟩ := hP
    have hs2 := ex_t e2 hs
    have ei : (1 : Int) + (i : Int) = ((i + 1 : Nat) : Int) := by omega
    have hik : i + 1 < 2 ^ (h * w) := by omega
    rw [ei]
    have l := el_lcR (σ := [some (.ref g), some (.int ((h : Int) * w)), some (.ref p), some (.int ((i + 1 : Nat) : Int)), y4, none]) (H := H') (t := tTest (tOp rEq (tOp oAnd (tOp oShr (tVar 3) (tVar 5)) (tC (.int 1))) (tC (.int 1)))) (te := tVar 5) (j := 5) (vs := [5]) (n := h * w) (ta := tCons (tVar 1) tNil)
      (fun c => decide ((i + 1) / 2 ^ c % 2 = 1)) (fun c => V.int (c : Int)) (ea_cons (by rw [cast]; exact ev_var rfl) ea_nil) (by omega) (fun x => rfl)
      (fun c H3 e3 hc => by
        have v : Ev (tOp oAnd (tOp oShr (tVar 3) (tVar 5)) (tC (.int 1))) [some (.ref g), some (.int ((h : Int) * w)), some (.ref p), some (.int ((i + 1 : Nat) : Int)), y4, some (.int (c : Int))] H3 (.int (((i + 1) / 2 ^ c % 2 : Nat) : Int)) := by
          refine ev_is (ev_op (ev_op (x := .int ((i + 1 : Nat) : Int)) (y := .int (c : Int)) (ev_var rfl) (ev_var rfl) (rv_I (by show (0 : Int) ≤ _; omega))) (ev_c (v := .int 1)) rv_I0) ?_
          show V.int (Builtin.bitAnd (((i + 1 : Nat) : Int) / 2 ^ ((c : Int)).toNat) 1) = _
          rw [PyProof.Rows.bitAnd_m1, Int.toNat_natCast]
          congr 1
        refine et_is (et_test (ev_op v (ev_c (v := .int 1)) (rv_eq rfl))) ?_
        rw [Bool.eq_iff_iff]
        simp only [decide_eq_true_eq, V.int.injEq]
        omega) (fun c H3 e3 hc _ => ev_var rfl)
    have le : (((List.range (h * w)).filter fun (c : Nat) => decide ((i + 1) / 2 ^ c % 2 = 1)).map fun (c : Nat) => V.int (c : Int)) = (cellsOf (h * w) (i + 1)).map V.int := by
      unfold cellsOf
      rw [List.map_map]
      rfl
    rw [le] at l
    refine q_asgL (i := 4) l fun c H3 hc e3 h3 => ?_
    have cne := cellsOf_ne (m := h * w) (k := i + 1) (by omega) hik
    have cl := cellsOf_len (h * w) (i + 1)
    have rs := ringsTo_succ h w i
    have rl := ringsTo_len h w i
    have bl : bs.length ≤ i := by
      have := congrArg List.length hbs
      rw [List.length_map] at this
      omega
    generalize cellsOf (h * w) (i + 1) = cs at *
    have cp : c ≠ p := (ne_of_none h2 hc).symm
    refine s_when (b := isRing h w cs) (et_B (ev_is_ring (ea_cons (ev_var rfl) (ea_cons (ev_var rfl) ea_nil)) (ex_t e3 hs2) gk (sq_of h3) cne (by omega))) (fun hb' H4 e4 => ?_) (fun hb' H4 e4 => ?_)
    · refine s_app (K := K) (l := p) (v := .ref c) (e4 _ _ (e3 _ _ h2)) (ev_var rfl) (ev_var rfl) (by rw [List.length_map]; omega) fun H5 e5 => ⟨_, _, rfl, Ex.mut (((e2.trans e3).trans e4).trans e5) hp, bs ++ [(c, cs)], ?_, ?_, fun b hm => ?_⟩
      · rw [upd_same, List.map_append]
        rfl
      · rw [List.map_append, rs, hbs, if_pos hb']
        rfl
      · rcases List.mem_append.mp hm with hm | hm
        · have z := hb b hm
          refine ⟨z.1, ?_⟩
          rw [upd_ne z.1.2]
          exact e5 _ _ (e4 _ _ (e3 _ _ z.2))
        · have : b = (c, cs) := by simpa using hm
          subst this
          refine ⟨⟨fresh_back e2 hc, cp⟩, ?_⟩
          rw [upd_ne cp]
          exact e5 _ _ (e4 _ _ h3)
    · refine ⟨_, _, rfl, (e2.trans e3).trans e4, bs, e4 _ _ (e3 _ _ h2), ?_, fun b hm => ?_⟩
      · rw [rs, hbs, hb', if_neg (by decide), List.append_nil]
      · have z := hb b hm
        exact ⟨z.1, e4 _ _ (e3 _ _ z.2)⟩
  · obtain ⟨y3, y4, rfl, e2, bs, h2, hbs, hb⟩ := hP
    have en : (((2 ^ (h * w) : Nat) : Int) - 1).toNat = 2 ^ (h * w) - 1 := by omega
    rw [en] at hbs
    refine s_retP (ep_sortedRows (K := K) (bs := bs) (ev_var rfl) (sq_of h2) (fun b hm => sq_of (hb b hm).2)) fun v H3 e3 hv => ?_
    obtain ⟨l, rfl, hl, h3⟩ := hv
    refine q _ H3 (e2.trans e3) ?_
    have e4 : allRings h w = (bs.mergeSort fun p q => decide (p.2 ≤ q.2)).map (·.2) := by
      unfold allRings
      rw [← hbs]
      exact (List.map_mergeSort (r := fun p q : Addr × List Int => decide (p.2 ≤ q.2)) (s := fun p q : List Int => decide (p ≤ q)) (f := fun b : Addr × List Int => b.2) (fun _ _ _ _ => rfl)).symm
    rw [e4]
    exact NewLL.of (fresh_back e2 hl) h3 fun b hm => by
      have hm := List.mem_mergeSort.mp hm
      exact ⟨(hb b hm).1.1, e3 _ _ (hb b hm).2⟩

/-! ### data written in place, equalities of rows -/
def EvAD (K : PySem.W.Frag) (ta : TA) (σ : L2.St) (H : Hp) (ds : List PyData) : Prop := ∀ H1, Ex H H1 → ∀ Q : List V → Hp → Prop, (∀ vs H2, Ex H1 H2 → DpAll K H2 vs ds → Q vs H2) → ta σ H1 Q
section
variable {K : PySem.W.Frag} {σ : L2.St} {H H' : Hp} {ta tb te : TE} {tr : TA} {d : PyData} {ds : List PyData}
theorem ead_nil : EvAD K tNil σ H [] := fun H1 _ _ q => q [] H1 (Ex.refl H1) .nil
theorem ead_cons (h : EvD K ta σ H d) (hr : EvAD K tr σ H ds) : EvAD K (tCons ta tr) σ H (d :: ds) := fun H1 e _ q =>
  h H1 e _ fun v H2 e2 hv => hr H2 (e.trans e2) _ fun vs H3 e3 hs => q (v :: vs) H3 (e2.trans e3) (.cons (Dp.mono e3 hv) hs)
theorem ed_lst (h : EvAD K tr σ H ds) (hl : ds.length ≤ 1000) : EvD K (tLst tr) σ H (.list ds) := fun H1 e Q q =>
  h H1 e _ fun vs H2 e2 hs => ⟨sz_of (by rw [dpAll_len hs]; omega), fun p hp => q _ _ (e2.trans (Ex.new hp)) (.lst (sq_of upd_same) (DpAll.mono (Ex.new hp) hs))⟩
theorem ed_tup (h : EvAD K tr σ H ds) (hl : ds.length ≤ 1000) : EvD K (tTup tr) σ H (.tuple ds) := fun H1 e Q q =>
  h H1 e _ fun vs H2 e2 hs => ⟨sz_of (by rw [dpAll_len hs]; omega), fun p hp => q _ _ (e2.trans (Ex.new hp)) (.tup (st_of upd_same) (DpAll.mono (Ex.new hp) hs))⟩
theorem ed_int {i : Int} (h : Ev te σ H (.int i)) : EvD K te σ H (.int i) := ed_of h (.int i)
theorem ed_is {d' : PyData} (h : EvD K te σ H d) (e : d = d') : EvD K te σ H d' := e ▸ h
end
theorem lay_dI (ns : List Int) : PyData.canLay0 (dI ns) = true := by
  unfold dI
  rw [PyData.canLay0]
  exact lay_ints ns
theorem lay_rows : ∀ nss : List (List Int), PyData.canLayAll0 (nss.map dI) = true
  | [] => rfl
  | n :: r => by
    rw [List.map_cons, PyData.canLayAll0, lay_dI n, lay_rows r]
    rfl
theorem depth_rows : ∀ nss : List (List Int), PyData.depthAll (nss.map dI) ≤ 2
  | [] => by simp [PyData.depthAll]
  | n :: r => by
    have h1 := depth_rows r
    have h2 := depth_ints n
    rw [List.map_cons, PyData.depthAll]
    have h3 : (dI n).depth ≤ 2 := by
      unfold dI
      rw [PyData.depth]
      omega
    omega
theorem shaped_rows (nss : List (List Int)) : SeqAt.shaped (dII nss) = true := shaped_of_len (lay_rows nss) (by have := depth_rows nss; omega)
theorem eqvAll_ints : ∀ xs ys : List Int, PyData.eqvAll (xs.map PyData.int) (ys.map PyData.int) = decide (xs = ys)
  | [], [] => by simp [PyData.eqvAll]
  | [], _ :: _ => by simp [PyData.eqvAll]
  | _ :: _, [] => by simp [PyData.eqvAll]
  | x :: xs, y :: ys => by
    rw [List.map_cons, List.map_cons, PyData.eqvAll, eqvAll_ints xs ys, PyData.eqv]
    rw [Bool.eq_iff_iff]
    simp
theorem eqv_dI (xs ys : List Int) : PyData.eqv (dI xs) (dI ys) = decide (xs = ys) := by
  unfold dI
  rw [PyData.eqv]
  exact eqvAll_ints xs ys
theorem eqvAll_rows : ∀ xs ys : List (List Int), PyData.eqvAll (xs.map dI) (ys.map dI) = decide (xs = ys)
  | [], [] => by simp [PyData.eqvAll]
  | [], _ :: _ => by simp [PyData.eqvAll]
  | _ :: _, [] => by simp [PyData.eqvAll]
  | x :: xs, y :: ys => by
    rw [List.map_cons, List.map_cons, PyData.eqvAll, eqvAll_rows xs ys, eqv_dI]
    rw [Bool.eq_iff_iff]
    simp
theorem eqv_dII (xs ys : List (List Int)) : PyData.eqv (dII xs) (dII ys) = decide (xs = ys) := by
  unfold dII
  rw [PyData.eqv]
  exact eqvAll_rows xs ys
theorem any_dI (xs : List (List Int)) (y : List Int) : ((xs.map dI).any fun z => PyData.eqv z (dI y)) = decide (y ∈ xs) := by
  rw [List.any_map, Bool.eq_iff_iff]
  simp only [List.any_eq_true, Function.comp, eqv_dI, decide_eq_true_eq]
  exact ⟨fun ⟨x, h, e⟩ => e ▸ h, fun h => ⟨y, h, rfl⟩⟩
theorem ed_rowsAt {K : PySem.W.Frag} {σ : L2.St} {H : Hp} {te : TE} {a : Addr} {nss : List (List Int)} (h : Ev te σ H (.ref a)) (hr : RowsAt K H a nss) : EvD K te σ H (dII nss) := ed_of h hr.dp
theorem NewLL.rows {K : PySem.W.Frag} {H1 H2 : Hp} {v : V} {nss : List (List Int)} (h : NewLL H1 v H2 (ints2 nss)) : ∃ p, v = .ref p ∧ H1 p = none ∧ RowsAt K H2 p nss := by
  obtain ⟨p, bs, rfl, hp, h2, rfl, hb⟩ := h.bs
  refine ⟨p, rfl, hp, bs.map (·.1), ?_, ?_⟩
  · rw [List.map_map]
    exact sq_of h2
  · have : ∀ {cs : List (Addr × List Int)}, (∀ b ∈ cs, H2 b.1 = some (.lst (b.2.map V.int))) → Paired (fun (r : Addr) (ns : List Int) => SqL K H2 r (ns.map V.int)) (cs.map (·.1)) (cs.map (·.2)) := by
      intro cs
      induction cs with
      | nil => exact fun _ => .nil
      | cons c r ih => exact fun h => .cons (sq_of (h c List.mem_cons_self)) (ih fun b m => h b (List.mem_cons_of_mem _ m))
    exact this fun b m => (hb b m).2
/-! ### fits -/
theorem ep_numbers_ofS {K : PySem.W.Frag} {σ : L2.St} {H : Hp} {ta tb : TE} {E : XK} {h w : Nat} {cs : List Int} (ha : EvST K ta σ H [.int (h : Int), .int (w : Int)]) (gk : GOk h w) (hc : EvS K tb σ H (cs.map V.int)) :
    EvP (tCall (sp_numbers_of K) [] E (tCons ta (tCons tb tNil))) σ H (fun H1 v H2 => NewLL H1 v H2 (ints2 (numbersOf h w cs))) := fun H1 e Q q =>
  ha H1 e _ fun g H2 e2 hg => hc H2 (e.trans e2) _ fun c H3 e3 hc3 => ⟨g, c, h, w, cs, rfl, ex_t e3 hg, gk, hc3, fun v H4 e4 z => q v H4 ((e2.trans e3).trans e4) (z.back (e2.trans e3))⟩
/-- clues as the program may ask of them -/
structure CluesR (nss : List (List Int)) : Prop where
  g : GOk nss.length (nss.headD []).length
  few : nss.length * (nss.headD []).length ≤ 9
  len : ∀ ns ∈ nss, ns.length ≤ 1000
section
variable {K : PySem.W.Frag} {σ : L2.St} {H H' : Hp} {te : TE} {a : Addr} {nss : List (List Int)}
theorem ev_lenRows (h : Ev te σ H (.ref a)) (hr : RowsAt K H a nss) : Ev (tCB (rLenS K) (tCons te tNil)) σ H (.int (nss.length : Int)) := by
  obtain ⟨rs, h1, h2⟩ := hr
  refine ev_is (ev_lenS (K := K) (es_of h h1)) ?_
  rw [List.length_map, Paired.length h2]
theorem ev_row0 (h : Ev te σ H (.ref a)) (hr : RowsAt K H a nss) (hn : 1 ≤ nss.length) : ∃ r, Ev (tOp (rIxL K) te (tC (.int 0))) σ H (.ref r) ∧ SqL K H r ((nss.headD []).map V.int) := by
  obtain ⟨rs, h1, h2⟩ := hr
  cases h2 with
  | nil => simp at hn
  | cons h3 h4 => exact ⟨_, ev_ixS (es_of h h1) ev_c (atI_nat (j := 0) rfl), h3⟩
theorem est_dims (h : Ev te σ H (.ref a)) (hr : RowsAt K H a nss) (hn : 1 ≤ nss.length) : EvST K (tTup (tCons (tCB (rLenS K) (tCons te tNil)) (tCons (tCB (rLenS K) (tCons (tOp (rIxL K) te (tC (.int 0))) tNil)) tNil))) σ H [.int (nss.length : Int), .int ((nss.headD []).length : Int)] := by
  obtain ⟨r, e1, s1⟩ := ev_row0 h hr hn
  refine est_new (eu_tup (ea_cons (ev_lenRows h hr) (ea_cons (ev_is (ev_lenS (K := K) (es_of e1 s1)) ?_) ea_nil)) (by simp))
  rw [List.length_map]
end
theorem paired_len_get {α β : Type} {F : α → β → Prop} {l : List α} {m : List β} (h : Paired F l m) : l.length = m.length := Paired.length h
def sp_fits (K : PySem.W.Frag) : Sp := fun vs H Q _ => ∃ a c nss cs, vs = [.ref a, .ref c] ∧ RowsAt K H a nss ∧ CluesR nss ∧ SqL K H c ((cs : List Int).map V.int) ∧ RetV (.bl (fits nss cs)) H Q
theorem ev_fits {K : PySem.W.Frag} {σ : L2.St} {H : Hp} {ta : TA} {E : XK} {a c : Addr} {nss : List (List Int)} {cs : List Int} (ha : EvA ta σ H [.ref a, .ref c]) (hr : RowsAt K H a nss) (ck : CluesR nss) (hc : SqL K H c (cs.map V.int)) : Ev (tCall (sp_fits K) [] E ta) σ H (.bl (fits nss cs)) := fun H1 e Q q =>
  ha H1 e _ fun H2 e2 => ⟨a, c, nss, cs, rfl, hr.mono (e.trans e2), ck, ex_l (e.trans e2) hc, fun H3 e3 => q H3 (e2.trans e3)⟩
def t_fits (K : PySem.W.Frag) : TS := (tSeq (tAsg (tCall (sp_numbers_of K) [] E0 (tCons (tTup (tCons (tCB (rLenS K) (tCons (tVar 0) tNil)) (tCons (tCB (rLenS K) (tCons (tOp (rIxL K) (tVar 0) (tC (.int 0))) tNil)) tNil))) (tCons (tVar 1) tNil))) (gName 2))
      (tSeq (tFor (iZip K (tCons (tVar 0) (tCons (tVar 2) tNil))) (gTup K 2 (gCons (gName 3) (gCons (gName 4) gNil))) (tIfS (tB (tCB (rAny K) (tCons (tLc (iZip K (tCons (tVar 3) (tCons (tVar 4) tNil))) (gTup K 2 (gCons (gName 5) (gCons (gName 6) gNil))) tYes (tAndV (tOp oGe (tVar 5) (tC (.int 0))) (tOp rNe (tVar 5) (tVar 6))) [5, 6]) tNil))) (tRet (tC (.bl false))) tNext))
      (tRet (tC (.bl true)))))
theorem any_row {K : PySem.W.Frag} {σ : L2.St} {H : Hp} {r q : Addr} {ns ms : List Int} {i j : Nat} {k l : Nat} (hi : σ[i]? = some (some (.ref r))) (hj : σ[j]? = some (some (.ref q))) (hr : SqL K H r (ns.map V.int)) (hq : SqL K H q (ms.map V.int)) (hl : ns.length ≤ 1000)
    (hw : ∀ x y, wipe (((wipe σ [k, l]).set k (some x)).set l (some y)) [k, l] = wipe σ [k, l]) (h1 : ∀ x y : V, (((wipe σ [k, l]).set k (some x)).set l (some y))[k]? = some (some x)) (h2 : ∀ x y : V, (((wipe σ [k, l]).set k (some x)).set l (some y))[l]? = some (some y)) :
    Ev (tCB (rAny K) (tCons (tLc (iZip K (tCons (tVar i) (tCons (tVar j) tNil))) (gTup K 2 (gCons (gName k) (gCons (gName l) gNil))) tYes (tAndV (tOp oGe (tVar k) (tC (.int 0))) (tOp rNe (tVar k) (tVar l))) [k, l]) tNil)) σ H (.bl (!rowFits ns ms)) := by
  have w := el_lcZ (K := K) (t := tYes) (te := tAndV (tOp oGe (tVar k) (tC (.int 0))) (tOp rNe (tVar k) (tVar l))) (σ := σ) (H := H) (i := k) (j := l) (vs := [k, l]) (fun _ => true) (fun p => match p with | (.int x, .int y) => V.bl (decide (0 ≤ x) && !decide (x = y)) | _ => .non)
    (es_of (ev_var hi) hr) (es_of (ev_var hj) hq) (by rw [List.length_map]; omega) hw (fun _ _ _ _ => et_yes) (fun p H1 e1 hp _ => by
      obtain ⟨x, y⟩ := p
      have hz := List.of_mem_zip hp
      obtain ⟨m, _, rfl⟩ := List.mem_map.mp hz.1
      obtain ⟨n, _, rfl⟩ := List.mem_map.mp hz.2
      refine ev_is (ev_andV (a := decide (0 ≤ m)) (b := !decide (V.int m = V.int n)) (ev_op (x := .int m) (y := .int 0) (ev_var (h1 _ _)) ev_c rv_I0) (fun _ => ev_op (ev_var (h1 _ _)) (ev_var (h2 _ _)) (rv_ne rfl))) ?_
      simp)
  have e : ((((ns.map V.int).zip (ms.map V.int)).filter fun _ => true).map (fun p => match p with | (.int x, .int y) => V.bl (decide (0 ≤ x) && !decide (x = y)) | _ => .non)) = ((ns.zip ms).map fun p => decide (0 ≤ p.1) && !decide (p.1 = p.2)).map V.bl := by
    rw [filter_yes, List.zip_map, List.map_map, List.map_map]
    rfl
  rw [e] at w
  refine ev_is (ev_anyS (K := K) (es_new (K := K) w)) ?_
  unfold rowFits
  rw [Bool.not_not, List.any_map]
  rfl
theorem pure_fits {K : PySem.W.Frag} {vs : List V} {H : Hp} {Q : VK} {E : XK} {D : Ends} (hD : D.rt = Q) (h : sp_fits K vs H Q E) : t_fits K D (start ["clues", "cells", "told", "row", "line", "clue", "number"] vs) H := by
  obtain ⟨a, c, nss, cs, rfl, hr, ck, hc, q⟩ := h
  subst hD
  change t_fits K D [some (.ref a), some (.ref c), none, none, none, none, none] H
  have g1 := ck.g.1
  refine q_asgP (i := 2) (ep_numbers_ofS (K := K) (est_dims (ev_var rfl) hr g1) ck.g (es_of (ev_var rfl) hc)) fun v H1 e1 hv => ?_
  obtain ⟨p, rfl, hp, hn⟩ := hv.rows (K := K)
  have hr1 := hr.mono e1
  have isF : fits nss cs = (nss.zip (numbersOf nss.length (nss.headD []).length cs)).all fun p => rowFits p.1 p.2 := rfl
  have ln : (numbersOf nss.length (nss.headD []).length cs).length = nss.length := by
    unfold numbersOf
    rw [List.length_map, List.length_range]
  generalize numbersOf nss.length (nss.headD []).length cs = mss at *
  obtain ⟨rs, s1, s2⟩ := hr1
  obtain ⟨ls, l1, l2⟩ := hn
  have n1 := Paired.length s2
  have n2 := Paired.length l2
  refine q_forZ (K := K) (i := 3) (j := 4) (ev_var rfl) (ev_var rfl) s1 l1 (by rw [List.length_map, List.length_map]; omega) (fun n σ' H' => ∃ y3 y4, σ' = [some (.ref a), some (.ref c), some (.ref p), y3, y4, none, none] ∧ Ex H1 H' ∧ ∀ p ∈ (nss.zip mss).take n, rowFits p.1 p.2 = true)
    (fun H2 e2 => ⟨_, _, rfl, e2, by simp⟩) (fun n σ' H' hP => by obtain ⟨_, _, _, e2, _⟩ := hP; exact e2) (fun n x y σ' H2 T hx hy hP hT => ?_) (fun σ' H2 hP => ?_)
  · obtain ⟨y3, y4, rfl, e2, hk⟩ := hP
    rw [List.getElem?_map] at hx hy
    obtain ⟨r, hrn, rfl⟩ := Option.map_eq_some_iff.mp hx
    obtain ⟨l, hln, rfl⟩ := Option.map_eq_some_iff.mp hy
    obtain ⟨ns, hns, sr⟩ := paired_get s2 hrn
    obtain ⟨ms, hms, sl⟩ := paired_get l2 hln
    have e3 : Ex H1 (upd H2 T (.tup [.ref r, .ref l])) := e2.trans (Ex.new hT)
    have an := any_row (K := K) (σ := [some (.ref a), some (.ref c), some (.ref p), some (.ref r), some (.ref l), none, none]) (H := upd H2 T (.tup [.ref r, .ref l])) (i := 3) (j := 4) (k := 5) (l := 6) rfl rfl (ex_l e3 sr) (ex_l e3 sl) (ck.len ns (List.mem_of_getElem? hns)) (fun _ _ => rfl) (fun _ _ => rfl) (fun _ _ => rfl)
    have hz : (nss.zip mss)[n]? = some (ns, ms) := by
      rw [List.getElem?_zip_eq_some]
      exact ⟨hns, hms⟩
    refine s_when (et_B an) (fun hb H4 e4 => ?_) (fun hb H4 e4 => ⟨_, _, rfl, e3.trans e4, fun z hz' => ?_⟩)
    · refine s_ret ev_c fun H5 e5 => ?_
      have : fits nss cs = false := by
        rw [isF, List.all_eq_false]
        exact ⟨(ns, ms), List.mem_of_getElem? hz, by simpa using hb⟩
      rw [this] at q
      exact q H5 (((e1.trans e3).trans e4).trans e5)
    · rw [take_snoc hz] at hz'
      rcases List.mem_append.mp hz' with m | m
      · exact hk z m
      · have : z = (ns, ms) := by simpa using m
        rw [this]
        simpa using hb
  · obtain ⟨y3, y4, rfl, e2, hk⟩ := hP
    have hl : (rs.map V.ref).length = (nss.zip mss).length := by
      rw [List.length_map, List.length_zip]
      omega
    rw [hl, List.take_length] at hk
    refine s_ret ev_c fun H3 e3 => ?_
    have : fits nss cs = true := by
      rw [isF, List.all_eq_true]
      exact hk
    rw [this] at q
    exact q H3 ((e1.trans e2).trans e3)
/-! ### fitting_of -/
def sp_fitting_of (K : PySem.W.Frag) : Sp := fun vs H Q _ => ∃ a nss, vs = [.ref a] ∧ RowsAt K H a nss ∧ CluesR nss ∧ RetP (fun H1 v H2 => NewLL H1 v H2 (ints2 (fittingOf nss))) H Q
theorem ep_fitting_of {K : PySem.W.Frag} {σ : L2.St} {H : Hp} {ta : TA} {E : XK} {a : Addr} {nss : List (List Int)} (ha : EvA ta σ H [.ref a]) (hr : RowsAt K H a nss) (ck : CluesR nss) : EvP (tCall (sp_fitting_of K) [] E ta) σ H (fun H1 v H2 => NewLL H1 v H2 (ints2 (fittingOf nss))) := fun H1 e Q q =>
  ha H1 e _ fun H2 e2 => ⟨a, nss, rfl, hr.mono (e.trans e2), ck, fun v H3 e3 z => q v H3 (e2.trans e3) (z.back e2)⟩
def t_fitting_of (K : PySem.W.Frag) : TS := (tRet (tLc (iList K (tCall (sp_all_rings K) [] E0 (tCons (tTup (tCons (tCB (rLenS K) (tCons (tVar 0) tNil)) (tCons (tCB (rLenS K) (tCons (tOp (rIxL K) (tVar 0) (tC (.int 0))) tNil)) tNil))) tNil))) (gName 1) (tB (tCall (sp_fits K) [] E0 (tCons (tVar 0) (tCons (tVar 1) tNil)))) (tVar 1) [1]))
theorem pure_fitting_of {K : PySem.W.Frag} {vs : List V} {H : Hp} {Q : VK} {E : XK} {D : Ends} (hD : D.rt = Q) (h : sp_fitting_of K vs H Q E) : t_fitting_of K D (start ["clues", "cells"] vs) H := by
  obtain ⟨a, nss, rfl, hr, ck, q⟩ := h
  subst hD
  change t_fitting_of K D [some (.ref a), none] H
  have g1 := ck.g.1
  refine s_retP (ep_lcRows (K := K) (j := 1) (vs := [1]) (fits nss) (ep_all_rings (K := K) (est_dims (ev_var rfl) hr g1) ck.g ck.few) (by have := allRings_len nss.length (nss.headD []).length ck.few; omega) (fun _ => rfl) (fun _ => rfl) (fun ns p H1 e1 hm h1 => ?_)) fun v H1 e1 hv => q v H1 e1 hv
  exact et_B (ev_fits (ea_cons (ev_var rfl) (ea_cons (ev_var rfl) ea_nil)) (hr.mono e1) ck (sq_of h1))
/-! ### One, Two, Never -/
def fldsC (u : V) : List (Str × V) := [("cells", u)]
theorem fldsC_cells {u : V} : (fldsC u).lookup ("cells" : Str) = some u := lk_self
theorem fldsC_shows {u : V} : (fldsC u).lookup ("shows" : Str) = none := lk_ne shows_cells
/-- a new instance of One, Two: new lists -/
def NewOne (C : Ad) (xs : List V) (H1 : Hp) (v : V) (H2 : Hp) : Prop := ∃ p dx l, v = .ref p ∧ H1 p = none ∧ H1 l = none ∧ H2 p = some (.ins C.cOne dx (fldsC (.ref l))) ∧ H2 l = some (.lst xs)
def NewTwo (C : Ad) (xs ys : List V) (H1 : Hp) (v : V) (H2 : Hp) : Prop := ∃ p dx l m, v = .ref p ∧ H1 p = none ∧ H1 l = none ∧ H1 m = none ∧ l ≠ m ∧ H2 p = some (.ins C.cTwo dx (flds2 (.ref l) (.ref m))) ∧ H2 l = some (.lst xs) ∧ H2 m = some (.lst ys)
def sp_One_init (K : PySem.W.Frag) (C : Ad) : Sp := fun vs H Q _ => ∃ p dx a xs, vs = [.ref p, .ref a] ∧ H p = some (.ins C.cOne dx []) ∧ SqL K H a xs ∧ ∀ l H2, H l = none → ButP p H H2 → H2 p = some (.ins C.cOne dx (fldsC (.ref l))) → H2 l = some (.lst xs) → Q .non H2
def t_One_init (K : PySem.W.Frag) : TS := (sFld K (tVar 0) (tCB (rListS K) (tCons (tVar 1) tNil)) "cells")
theorem pure_One_init {K : PySem.W.Frag} {C : Ad} {vs : List V} {H : Hp} {Q : VK} {E : XK} {D : Ends} (hD : D.nx = fun _ H' => Q .non H') (cf_One : Cf K C.cOne ["cells"]) (h : sp_One_init K C vs H Q E) : t_One_init K D (start ["self", "cells"] vs) H := by
  obtain ⟨p, dx, a, xs, rfl, hp, ha, q⟩ := h
  change t_One_init K D [some (.ref p), some (.ref a)] H
  refine s_fldL (xs := xs) (el_listS (es_of (ev_var rfl) ha)) (ev_var rfl) hp cf_One (by simp) (by simp) fun l H1 hl e1 h1 => ?_
  rw [hD]
  have ne : l ≠ p := (ne_of_none hp hl).symm
  refine q l _ hl (fun b o nb hb => ?_) upd_same ?_
  · rw [upd_ne nb]
    exact e1 _ _ hb
  · rw [upd_ne ne]
    exact h1
theorem ep_One {K : PySem.W.Frag} {C : Ad} {σ : L2.St} {H : Hp} {ta : TE} {E : XK} {xs : List V} (ha : EvS K ta σ H xs) : EvP (tMake C.cOne (sp_One_init K C) [] E (tCons ta tNil)) σ H (NewOne C xs) := fun H1 e Q q =>
  ha H1 e _ fun a H2 e2 hx x dx hx1 hdx ne => by
    have e3 : Ex H2 (upd (upd H2 dx (.own x)) x (.ins C.cOne dx [])) := fun b o hb => by rw [upd_ne (ne_of_none hb hx1), upd_ne (ne_of_none hb hdx)]; exact hb
    refine ⟨x, dx, a, xs, rfl, upd_same, ex_l e3 hx, fun l H3 hl b h3 h4 => ⟨rfl, q _ H3 (e2.trans (made_ex hx1 hdx b)) ⟨x, dx, l, rfl, fresh_back e2 hx1, fresh_back (e2.trans e3) hl, h3, h4⟩⟩⟩
def sp_Two_init (K : PySem.W.Frag) (C : Ad) : Sp := fun vs H Q _ => ∃ p dx a b xs ys, vs = [.ref p, .ref a, .ref b] ∧ H p = some (.ins C.cTwo dx []) ∧ SqL K H a xs ∧ SqL K H b ys ∧ a ≠ p ∧ b ≠ p ∧ ∀ l m H2, H l = none → H m = none → l ≠ m → ButP p H H2 → H2 p = some (.ins C.cTwo dx (flds2 (.ref l) (.ref m))) → H2 l = some (.lst xs) → H2 m = some (.lst ys) → Q .non H2
def t_Two_init (K : PySem.W.Frag) : TS := (tSeq (sFld K (tVar 0) (tCB (rListS K) (tCons (tVar 1) tNil)) "one")
      (sFld K (tVar 0) (tCB (rListS K) (tCons (tVar 2) tNil)) "other"))
theorem sql_but {K : PySem.W.Frag} {p b : Addr} {H H2 : Hp} {xs : List V} (h : ButP p H H2) (ne : b ≠ p) (hs : SqL K H b xs) : SqL K H2 b xs := by
  rcases hs with (hs | ⟨o, hs⟩) | hs
  · exact .inl (.inl (h _ _ ne hs))
  · exact .inl (.inr ⟨o, h _ _ ne hs⟩)
  · exact .inr hs
theorem pure_Two_init {K : PySem.W.Frag} {C : Ad} {vs : List V} {H : Hp} {Q : VK} {E : XK} {D : Ends} (hD : D.nx = fun _ H' => Q .non H') (cf_Two : Cf K C.cTwo ["one", "other"]) (h : sp_Two_init K C vs H Q E) : t_Two_init K D (start ["self", "one", "other"] vs) H := by
  obtain ⟨p, dx, a, b, xs, ys, rfl, hp, ha, hb, na, nb, q⟩ := h
  change t_Two_init K D [some (.ref p), some (.ref a), some (.ref b)] H
  refine q_fldL (xs := xs) (el_listS (es_of (ev_var rfl) ha)) (ev_var rfl) hp cf_Two (by simp) (by simp) fun l H1 hl e1 h1 => ?_
  have lp : l ≠ p := (ne_of_none hp hl).symm
  have bt : ButP p H (upd H1 p (.ins C.cTwo dx (putF "one" (.ref l) []))) := fun c o nc hc => by rw [upd_ne nc]; exact e1 _ _ hc
  refine s_fldL (xs := ys) (el_listS (es_of (ev_var rfl) (sql_but bt nb hb))) (ev_var rfl) upd_same cf_Two (by simp) (by simp [putF]) fun m H2 hm e2 h2 => ?_
  rw [hD]
  have h1' : (upd H1 p (.ins C.cTwo dx (putF "one" (.ref l) []))) l = some (.lst xs) := by rw [upd_ne lp]; exact h1
  have mp : m ≠ p := fun z => by rw [z, upd_same] at hm; cases hm
  have lm : l ≠ m := fun z => by rw [← z, h1'] at hm; cases hm
  have hm1 : H1 m = none := by rw [upd_ne mp] at hm; exact hm
  refine q l m _ hl (fresh_back e1 hm1) lm (fun c o nc hc => ?_) ?_ ?_ ?_
  · rw [upd_ne nc]
    exact e2 _ _ (bt _ _ nc hc)
  · rw [upd_same]
    exact congrArg (fun z => some (HO.ins C.cTwo dx z)) (put_ne one_other)
  · rw [upd_ne lp]
    exact e2 _ _ h1'
  · rw [upd_ne mp]
    exact h2
theorem sql_ne {K : PySem.W.Frag} {H : Hp} {a x : Addr} {xs : List V} (h : SqL K H a xs) (hk : ∀ o, K.lookup a = some o → a ≠ x) (hx : H x = none) : a ≠ x := by
  rcases h with (h | ⟨o, h⟩) | ⟨o, its, n, h, _⟩
  · exact ne_of_none h hx
  · exact ne_of_none h hx
  · exact hk o h
theorem ep_Two {K : PySem.W.Frag} {C : Ad} {σ : L2.St} {H : Hp} {ta tb : TE} {E : XK} {xs ys : List V} {a b : Addr} (ha : Ev ta σ H (.ref a)) (hb : Ev tb σ H (.ref b)) (hx : H a = some (.lst xs)) (hy : H b = some (.lst ys)) : EvP (tMake C.cTwo (sp_Two_init K C) [] E (tCons ta (tCons tb tNil))) σ H (NewTwo C xs ys) := fun H1 e Q q =>
  ha H1 e _ fun H2 e2 => hb H2 (e.trans e2) _ fun H3 e3 x dx hx1 hdx ne => by
    have e4 : Ex H3 (upd (upd H3 dx (.own x)) x (.ins C.cTwo dx [])) := fun c o hc => by rw [upd_ne (ne_of_none hc hx1), upd_ne (ne_of_none hc hdx)]; exact hc
    have e14 := (e.trans e2).trans e3
    refine ⟨x, dx, a, b, xs, ys, rfl, upd_same, sq_of (e4 _ _ (e14 _ _ hx)), sq_of (e4 _ _ (e14 _ _ hy)), ne_of_none (e14 _ _ hx) hx1, ne_of_none (e14 _ _ hy) hx1, fun l m H4 hl hm lm bt h5 h6 h7 => ⟨rfl, q _ H4 ((e2.trans e3).trans (made_ex hx1 hdx bt)) ⟨x, dx, l, m, rfl, fresh_back (e2.trans e3) hx1, fresh_back ((e2.trans e3).trans e4) hl, fresh_back ((e2.trans e3).trans e4) hm, lm, h5, h6, h7⟩⟩⟩
def sp_One_shows (K : PySem.W.Frag) (C : Ad) : Sp := fun vs H Q _ => ∃ p a dx l nss ns, vs = [.ref p, .ref a] ∧ H p = some (.ins C.cOne dx (fldsC (.ref l))) ∧ SqL K H l ((ns : List Int).map V.int) ∧ RowsAt K H a nss ∧ CluesR nss ∧ RetV (.bl (decide (fittingOf nss = [ns]))) H Q
def t_One_shows (K : PySem.W.Frag) : TS := (tRet (tOp (rEqD K) (tCall (sp_fitting_of K) [] E0 (tCons (tVar 1) tNil)) (tLst (tCons (tFld K (tVar 0) "cells") tNil))))
theorem pure_One_shows {K : PySem.W.Frag} {C : Ad} {vs : List V} {H : Hp} {Q : VK} {E : XK} {D : Ends} (hD : D.rt = Q) (cf_One : Cf K C.cOne ["cells"]) (h : sp_One_shows K C vs H Q E) : t_One_shows K D (start ["self", "clues"] vs) H := by
  obtain ⟨p, a, dx, l, nss, ns, rfl, hp, hl, hr, ck, q⟩ := h
  subst hD
  change t_One_shows K D [some (.ref p), some (.ref a)] H
  refine s_ret (ev_is (ev_eqD (d := dII (fittingOf nss)) (d' := dII [ns]) (ed_p (ep_fitting_of (ea_cons (ev_var rfl) ea_nil) hr ck) fun _ _ _ z => z.dp) (ed_lst (ead_cons (ed_of (ev_fld (ev_var rfl) hp cf_One (by simp) fldsC_cells) (dp_ints hl)) ead_nil) (by simp)) (shaped_rows _) (shaped_rows _)) (by rw [eqv_dII])) fun H1 e1 => q H1 e1
def twoShows (nss : List (List Int)) (a b : List Int) : Bool := !decide (a = b) && (decide (a ∈ fittingOf nss) && decide (b ∈ fittingOf nss))
def sp_Two_shows (K : PySem.W.Frag) (C : Ad) : Sp := fun vs H Q _ => ∃ p a dx l m nss ns ms, vs = [.ref p, .ref a] ∧ H p = some (.ins C.cTwo dx (flds2 (.ref l) (.ref m))) ∧ SqL K H l ((ns : List Int).map V.int) ∧ SqL K H m ((ms : List Int).map V.int) ∧ RowsAt K H a nss ∧ CluesR nss ∧ RetV (.bl (twoShows nss ns ms)) H Q
def t_Two_shows (K : PySem.W.Frag) : TS := (tSeq (tAsg (tCall (sp_fitting_of K) [] E0 (tCons (tVar 1) tNil)) (gName 2))
      (tRet (tAndV (tOp (rNeD K) (tFld K (tVar 0) "one") (tFld K (tVar 0) "other")) (tAndV (tOp (rInD K) (tFld K (tVar 0) "one") (tVar 2)) (tOp (rInD K) (tFld K (tVar 0) "other") (tVar 2))))))
theorem pure_Two_shows {K : PySem.W.Frag} {C : Ad} {vs : List V} {H : Hp} {Q : VK} {E : XK} {D : Ends} (hD : D.rt = Q) (cf_Two : Cf K C.cTwo ["one", "other"]) (h : sp_Two_shows K C vs H Q E) : t_Two_shows K D (start ["self", "clues", "found"] vs) H := by
  obtain ⟨p, a, dx, l, m, nss, ns, ms, rfl, hp, hl, hm, hr, ck, q⟩ := h
  subst hD
  change t_Two_shows K D [some (.ref p), some (.ref a), none] H
  refine q_asgP (i := 2) (ep_fitting_of (ea_cons (ev_var rfl) ea_nil) hr ck) fun v H1 e1 hv => ?_
  have dv : Dp K H1 v (dII (fittingOf nss)) := hv.dp
  have f1 : EvD K (tFld K (tVar 0) "one") [some (.ref p), some (.ref a), some v] H1 (dI ns) := ed_of (ev_fld (ev_var rfl) (e1 _ _ hp) cf_Two (by simp) flds2_one) (dp_ints (ex_l e1 hl))
  have f2 : EvD K (tFld K (tVar 0) "other") [some (.ref p), some (.ref a), some v] H1 (dI ms) := ed_of (ev_fld (ev_var rfl) (e1 _ _ hp) cf_Two (by simp) flds2_other) (dp_ints (ex_l e1 hm))
  refine s_ret (ev_is (ev_andV (a := !decide (ns = ms)) (ev_is (ev_neD f1 f2 (shaped_ints _) (shaped_ints _)) (by rw [eqv_dI])) (fun _ => ev_andV (a := decide (ns ∈ fittingOf nss)) (b := decide (ms ∈ fittingOf nss)) (ev_is (ev_inD (ds := (fittingOf nss).map dI) f1 (ed_of (ev_var rfl) dv) (shaped_ints _) (shaped_rows _)) (by rw [any_dI])) (fun _ => ev_is (ev_inD (ds := (fittingOf nss).map dI) f2 (ed_of (ev_var rfl) dv) (shaped_ints _) (shaped_rows _)) (by rw [any_dI])))) rfl) fun H2 e2 => q H2 (e1.trans e2)
def sp_Never_shows (K : PySem.W.Frag) : Sp := fun vs H Q _ => ∃ p a nss, vs = [.ref p, .ref a] ∧ RowsAt K H a nss ∧ CluesR nss ∧ RetV (.bl (decide (fittingOf nss = []))) H Q
def t_Never_shows (K : PySem.W.Frag) : TS := (tRet (tOp (rEqD K) (tCall (sp_fitting_of K) [] E0 (tCons (tVar 1) tNil)) (tLst tNil)))
theorem pure_Never_shows {K : PySem.W.Frag} {vs : List V} {H : Hp} {Q : VK} {E : XK} {D : Ends} (hD : D.rt = Q) (h : sp_Never_shows K vs H Q E) : t_Never_shows K D (start ["self", "clues"] vs) H := by
  obtain ⟨p, a, nss, rfl, hr, ck, q⟩ := h
  subst hD
  change t_Never_shows K D [some (.ref p), some (.ref a)] H
  refine s_ret (ev_is (ev_eqD (d := dII (fittingOf nss)) (d' := dII []) (ed_p (ep_fitting_of (ea_cons (ev_var rfl) ea_nil) hr ck) fun _ _ _ z => z.dp) (ed_lst ead_nil (by simp)) (shaped_rows _) (shaped_rows _)) (by rw [eqv_dII])) fun H1 e1 => q H1 e1

/-! ### judged -/
inductive Ans
  | ring
  | split (x y : Int)
  | hole (x : Int)
deriving DecidableEq
def judgedM (h w : Nat) (cs : List Int) : Ans :=
  if (spread h w (cs.headD 0) cs).length < cs.length then .split (cs.headD 0) ((cs.filter fun c => !decide (c ∈ spread h w (cs.headD 0) cs)).headD 0)
  else match firstInner h w cs with
    | none => .ring
    | some i => .hole (i : Int)
def NewAns (C : Ad) : Ans → Hp → V → Hp → Prop
  | .ring => NewI C.cRing []
  | .split x y => NewI C.cSplit (flds2 (.int x) (.int y))
  | .hole x => NewI C.cHole (flds1 (.int x))
theorem NewAns.back {C : Ad} {a : Ans} {H0 H1 H2 : Hp} {v : V} (e : Ex H0 H1) (h : NewAns C a H1 v H2) : NewAns C a H0 v H2 := by
  cases a <;> exact NewI.back e h
theorem NewAns.on {C : Ad} {a : Ans} {H1 H2 H3 : Hp} {v : V} (e : Ex H2 H3) (h : NewAns C a H1 v H2) : NewAns C a H1 v H3 := by
  cases a <;> exact NewI.on e h
/-- a door with a grid and cells: refused, or R -/
def DoorGC (K : PySem.W.Frag) (C : Ad) (v u : V) (H : Hp) (Q : VK) (E : XK) (ok : Addr → Nat → Nat → List Int → Prop) : Prop :=
  (BadG K H v ∧ RetE C.cBadGrid H E) ∨
   (∃ g h w, v = .ref g ∧ SqT K H g [.int ((h : Nat) : Int), .int ((w : Nat) : Int)] ∧ GOk h w ∧ ((BadC K H ((h : Int) * w) u ∧ RetE C.cBadCells H E) ∨
     ∃ c cs, u = .ref c ∧ SqL K H c (cs.map V.int) ∧ COk h w cs ∧ ok c h w cs))
theorem BadC.mono {K : PySem.W.Frag} {H H' : Hp} {m : Int} {v : V} (e : Ex H H') (hb : BadC K H m v) : BadC K H' m v := by
  rcases hb with ⟨n, hk, hn⟩ | ⟨a, xs, ds, rfl, h1, h2, h3⟩
  · exact .inl ⟨n, hk.mono e, hn⟩
  · exact .inr ⟨a, xs, ds, rfl, ex_l e h1, DpAll.mono e h2, h3⟩
theorem BadG.mono {K : PySem.W.Frag} {H H' : Hp} {v : V} (e : Ex H H') (hb : BadG K H v) : BadG K H' v := by
  rcases hb with ⟨n, hk, hn⟩ | ⟨a, xs, rfl, h1, h2, h3, h4⟩
  · exact .inl ⟨n, hk.mono e, hn⟩
  · exact .inr ⟨a, xs, rfl, ex_t e h1, h2, fun x hx => (h3 x hx).imp fun n z => z.mono e, h4⟩
/-- the two checks ahead of a door's body -/
theorem q_checks {K : PySem.W.Frag} {C : Ad} {σ : L2.St} {H : Hp} {E : XK} {D : Ends} {tz : TS} {v u : V} {Q : VK} {ok : Addr → Nat → Nat → List Int → Prop} (h0 : σ[0]? = some (some v)) (h1 : σ[1]? = some (some u)) (h : DoorGC K C v u H Q E ok)
    (k : ∀ g h w c cs H1, v = .ref g → u = .ref c → Ex H H1 → SqT K H1 g [.int ((h : Nat) : Int), .int ((w : Nat) : Int)] → GOk h w → SqL K H1 c (cs.map V.int) → COk h w cs → ok c h w cs → tz D σ H1) :
    tSeq (tDrop (tCall (sp_check_grid K C) [] E (tCons (tVar 0) tNil))) (tSeq (tDrop (tCall (sp_check_cells K C) [] E (tCons (tVar 0) (tCons (tVar 1) tNil)))) tz) D σ H := by
  rcases h with ⟨hb, q⟩ | ⟨g, h, w, rfl, hs, gk, h⟩
  · exact ⟨v, h0, v, rfl, .inr ⟨hb, q⟩⟩
  · refine q_drop (ev_check_grid (ea_cons (ev_var h0) ea_nil) hs gk) fun H1 e1 => ?_
    rcases h with ⟨hb, q⟩ | ⟨c, cs, rfl, hc, ck, hok⟩
    · exact ⟨_, h0, u, h1, g, h, w, u, rfl, ex_t e1 hs, gk, .inr ⟨hb.mono e1, fun H2 e2 => q H2 (e1.trans e2)⟩⟩
    · refine q_drop (ev_check_cells (ea_cons (ev_var h0) (ea_cons (ev_var h1) ea_nil)) (ex_t e1 hs) gk (ex_l e1 hc) ck) fun H2 e2 => ?_
      exact k g h w c cs H2 rfl rfl (e1.trans e2) (ex_t (e1.trans e2) hs) gk (ex_l (e1.trans e2) hc) ck hok
def sp_judged (K : PySem.W.Frag) (C : Ad) : Sp := fun vs H Q E => ∃ v u, vs = [v, u] ∧ DoorGC K C v u H Q E fun _ h w cs => RetP (NewAns C (judgedM h w cs)) H Q
theorem ep_judged {K : PySem.W.Frag} {C : Ad} {σ : L2.St} {H : Hp} {ta tb : TE} {E : XK} {h w : Nat} {cs : List Int} (ha : EvST K ta σ H [.int (h : Int), .int (w : Int)]) (gk : GOk h w) (hc : EvS K tb σ H (cs.map V.int)) (ck : COk h w cs) :
    EvP (tCall (sp_judged K C) [] E (tCons ta (tCons tb tNil))) σ H (NewAns C (judgedM h w cs)) := fun H1 e Q q =>
  ha H1 e _ fun g H2 e2 hg => hc H2 (e.trans e2) _ fun c H3 e3 hc3 => ⟨_, _, rfl, .inr ⟨g, h, w, rfl, ex_t e3 hg, gk, .inr ⟨c, cs, rfl, hc3, ck, fun v H4 e4 z => q v H4 ((e2.trans e3).trans e4) (z.back (e2.trans e3))⟩⟩⟩
def t_judged (K : PySem.W.Frag) (C : Ad) (E : XK) : TS := (tSeq (tDrop (tCall (sp_check_grid K C) [] E (tCons (tVar 0) tNil)))
      (tSeq (tDrop (tCall (sp_check_cells K C) [] E (tCons (tVar 0) (tCons (tVar 1) tNil))))
      (tSeq (tAsg (tCall (sp_spread K) [] E0 (tCons (tVar 0) (tCons (tOp (rIxL K) (tVar 1) (tC (.int 0))) (tCons (tVar 1) tNil)))) (gName 2))
      (tSeq (tIfS (tTest (tOp oLt (tCB (rLenS K) (tCons (tVar 2) tNil)) (tCB (rLenS K) (tCons (tVar 1) tNil)))) (tRet (tMake C.cSplit (sp_Split_init K C) [] E0 (tCons (tOp (rIxL K) (tVar 1) (tC (.int 0))) (tCons (tOp (rIxL K) (tLc (iList K (tVar 1)) (gName 4) (tTest (tOp (rIn K true) (tVar 4) (tVar 2))) (tVar 4) [4]) (tC (.int 0))) tNil)))) tNext)
      (tSeq (tAsg (tCall (sp_first_inner K) [] E0 (tCons (tVar 0) (tCons (tVar 1) tNil))) (gName 3))
      (tRet (tIf (tTest (tOp rIsN (tVar 3) (tC .non))) (tBare C.cRing) (tMake C.cHole (sp_Hole_init K C) [] E0 (tCons (tVar 3) tNil)))))))))
theorem rising_nodup {cs : List Int} (h : Rising cs) : cs.Nodup := List.Pairwise.imp (fun a => by omega) h
theorem headD_of {α : Type} {l : List α} (d : α) (h : l ≠ []) : l[0]? = some (l.headD d) := by
  cases l with
  | nil => exact absurd rfl h
  | cons a r => rfl
theorem ep_if {σ : L2.St} {H : Hp} {t : TT} {ta tb : TE} {b : Bool} {R : Hp → V → Hp → Prop} (hR : ∀ {H0 H1 v H2}, Ex H0 H1 → R H1 v H2 → R H0 v H2) (h : EvT t σ H b) (h1 : b = true → EvP ta σ H R) (h2 : b = false → EvP tb σ H R) : EvP (tIf t ta tb) σ H R := fun H1 e Q q => h H1 e _ fun H2 e2 => by
  cases b with
  | true =>
    show ta σ H2 Q
    exact h1 rfl H2 (e.trans e2) Q fun v H3 e3 z => q v H3 (e2.trans e3) (hR e2 z)
  | false =>
    show tb σ H2 Q
    exact h2 rfl H2 (e.trans e2) Q fun v H3 e3 z => q v H3 (e2.trans e3) (hR e2 z)
theorem pure_judged {K : PySem.W.Frag} {C : Ad} {vs : List V} {H : Hp} {Q : VK} {E : XK} {D : Ends} (hD : D.rt = Q) (h : sp_judged K C vs H Q E) : t_judged K C E D (start ["grid", "cells", "near", "inner", "cell"] vs) H := by
  obtain ⟨v, u, rfl, hd⟩ := h
  subst hD
  change t_judged K C E D [some v, some u, none, none, none] H
  refine q_checks rfl rfl hd fun g h w c cs H1 hv hu e1 hs gk hc ck q => ?_
  subst hv hu
  clear hd
  have cl := cok_len gk ck
  have it : Ev (tOp (rIxL K) (tVar 1) (tC (.int 0))) [some (.ref g), some (.ref c), none, none, none] H1 (.int (cs.headD 0)) := ev_ixS (es_of (ev_var rfl) hc) ev_c (at_first ck.1)
  refine q_asgL (i := 2) (el_spread (E := E0) (K := K) (ta := tCons (tVar 0) (tCons (tOp (rIxL K) (tVar 1) (tC (.int 0))) (tCons (tVar 1) tNil))) (ea_cons (ev_var rfl) (ea_cons it (ea_cons (ev_var rfl) ea_nil))) hs gk hc (by omega)) fun n H2 hn e2 h2 => ?_
  have hc2 := ex_l e2 hc
  have hs2 := ex_t e2 hs
  have so := spread_ok h (w := w) gk.2.2.1 (cs.headD 0) cs
  have jm : judgedM h w cs = if (spread h w (cs.headD 0) cs).length < cs.length then .split (cs.headD 0) ((cs.filter fun c => !decide (c ∈ spread h w (cs.headD 0) cs)).headD 0)
    else match firstInner h w cs with | none => .ring | some i => .hole (i : Int) := rfl
  generalize spread h w (cs.headD 0) cs = near at *
  have t := et_test (ev_op (r := oLt) (σ := [some (.ref g), some (.ref c), some (.ref n), none, none]) (H := H2) (ev_lenS (K := K) (ta := tVar 2) (es_of (ev_var rfl) (sq_of h2))) (ev_lenS (K := K) (ta := tVar 1) (es_of (ev_var rfl) hc2)) rv_I0)
  rw [List.length_map, List.length_map] at t
  refine q_when t (fun hb H3 e3 => ?_) (fun hb H3 e3 => ?_)
  · have hlt : near.length < cs.length := by have := of_decide_eq_true hb; omega
    rw [if_pos hlt] at jm
    have ne : (cs.filter fun c => !decide (c ∈ near)) ≠ [] := by
      intro z
      have all := List.filter_eq_nil_iff.mp z
      have : ∀ o ∈ cs, o ∈ near := fun o ho => by simpa using all o ho
      have := nodup_sub (rising_nodup ck.2.2) this
      omega
    have hc3 := ex_l e3 hc2
    have l := el_lcI (K := K) (σ := [some (.ref g), some (.ref c), some (.ref n), none, none]) (H := H3) (ns := cs) (tl := tVar 1) (t := tTest (tOp (rIn K true) (tVar 4) (tVar 2))) (te := tVar 4) (j := 4) (vs := [4]) (fun o => !decide (o ∈ near)) V.int (es_of (ev_var rfl) hc3) (by omega) (fun x => rfl)
      (fun n' H4 e4 _ => et_test (ev_notIn (ev_var rfl) (es_of (ev_var rfl) (sq_of (e4 _ _ (e3 _ _ h2)))))) (fun n' H4 e4 _ _ => ev_var rfl)
    refine s_retP (ep_Split (K := K) (C := C) (ea_cons (ev_ixS (es_of (ev_var rfl) hc3) ev_c (at_first ck.1)) (ea_cons (ev_ixS (es_new l) ev_c (at_first ne)) ea_nil))) fun v H4 e4 z => ?_
    refine q v H4 (((e1.trans e2).trans e3).trans e4) ?_
    rw [jm]
    exact NewI.back ((e1.trans e2).trans e3) z
  · have hlt : ¬ near.length < cs.length := by have := of_decide_eq_false hb; omega
    rw [if_neg hlt] at jm
    have hs3 := ex_t e3 hs2
    have hc3 := ex_l e3 hc2
    refine q_asg (i := 3) (ev_first_inner (K := K) (ea_cons (ev_var rfl) (ea_cons (ev_var rfl) ea_nil)) hs3 gk hc3) fun H4 e4 => ?_
    refine s_retP (R := NewAns C (judgedM h w cs)) (ep_if (b := (firstInner h w cs).isNone) (fun e z => z.back e) (et_is (et_test (ev_op (ev_var rfl) ev_c rv_isN)) (opt_is _)) (fun hb' => ?_) (fun hb' => ?_)) fun v H5 e5 z => q v H5 ((((e1.trans e2).trans e3).trans e4).trans e5) (z.back (((e1.trans e2).trans e3).trans e4))
    · cases hf : firstInner h w cs with
      | none =>
        rw [hf] at jm
        rw [jm]
        exact ep_bare
      | some i => rw [hf] at hb'; cases hb'
    · cases hf : firstInner h w cs with
      | none => rw [hf] at hb'; cases hb'
      | some i =>
        rw [hf] at jm
        rw [jm]
        exact ep_Hole (ea_cons (ev_var rfl) ea_nil)
/-! ### check_few, rings -/
def DoorF (K : PySem.W.Frag) (C : Ad) (v : V) (H : Hp) (E : XK) (ok : Addr → Nat → Nat → Prop) : Prop :=
  (BadG K H v ∧ RetE C.cBadGrid H E) ∨ (∃ g h w, v = .ref g ∧ SqT K H g [.int ((h : Nat) : Int), .int ((w : Nat) : Int)] ∧ GOk h w ∧ ((9 < h * w ∧ RetE C.cBadGrid H E) ∨ (h * w ≤ 9 ∧ ok g h w)))
def sp_check_few (K : PySem.W.Frag) (C : Ad) : Sp := fun vs H Q E => ∃ v, vs = [v] ∧ DoorF K C v H E fun _ _ _ => RetV .non H Q
def t_check_few (K : PySem.W.Frag) (C : Ad) (E : XK) : TS := (tSeq (tDrop (tCall (sp_check_grid K C) [] E (tCons (tVar 0) tNil)))
      (tIfS (tTest (tOp oGt (tOp oMul (tOp (rIxT K) (tVar 0) (tC (.int 0))) (tOp (rIxT K) (tVar 0) (tC (.int 1)))) (tC (.int 9)))) (tRaise E (.ref C.cBadGrid)) tNext))
theorem pure_check_few {K : PySem.W.Frag} {C : Ad} {vs : List V} {H : Hp} {Q : VK} {E : XK} {D : Ends} (hD : D.nx = fun _ H' => Q .non H') (h : sp_check_few K C vs H Q E) : t_check_few K C E D (start ["grid"] vs) H := by
  obtain ⟨v, rfl, h⟩ := h
  change t_check_few K C E D [some v] H
  rcases h with ⟨hb, q⟩ | ⟨g, h, w, rfl, hs, gk, hk⟩
  · exact ⟨v, rfl, v, rfl, .inr ⟨hb, q⟩⟩
  · refine q_drop (ev_check_grid (ea_cons (ev_var rfl) ea_nil) hs gk) fun H1 e1 => ?_
    have gb := gk
    obtain ⟨g1, g2, g3, g4⟩ := gb
    have hs1 := ex_t e1 hs
    have cast : ((h * w : Nat) : Int) = (h : Int) * w := Int.natCast_mul h w
    have t : EvT (tTest (tOp oGt (tOp oMul (tOp (rIxT K) (tVar 0) (tC (.int 0))) (tOp (rIxT K) (tVar 0) (tC (.int 1)))) (tC (.int 9)))) [some (.ref g)] H1 (decide ((9 : Int) < (h : Int) * w)) := by walk_at "et"
    rcases hk with ⟨hb, q⟩ | ⟨hb, q⟩
    · exact s_when t (fun _ H2 e2 => q H2 (e1.trans e2)) (fun z => by have := of_decide_eq_false z; omega)
    · refine s_when t (fun z => by have := of_decide_eq_true z; omega) (fun _ H2 e2 => ?_)
      rw [hD]
      exact q H2 (e1.trans e2)
def sp_rings (K : PySem.W.Frag) (C : Ad) : Sp := fun vs H Q E => ∃ v, vs = [v] ∧ DoorF K C v H E fun _ h w => RetP (fun H1 v H2 => NewLL H1 v H2 (ints2 (allRings h w))) H Q
theorem ep_rings {K : PySem.W.Frag} {C : Ad} {σ : L2.St} {H : Hp} {ta : TE} {E : XK} {h w : Nat} (ha : EvST K ta σ H [.int (h : Int), .int (w : Int)]) (gk : GOk h w) (hm : h * w ≤ 9) : EvP (tCall (sp_rings K C) [] E (tCons ta tNil)) σ H (fun H1 v H2 => NewLL H1 v H2 (ints2 (allRings h w))) := fun H1 e Q q =>
  ha H1 e _ fun g H2 e2 hg => ⟨_, rfl, .inr ⟨g, h, w, rfl, hg, gk, .inr ⟨hm, fun v H3 e3 z => q v H3 (e2.trans e3) (z.back e2)⟩⟩⟩
def t_rings (K : PySem.W.Frag) (C : Ad) (E : XK) : TS := (tSeq (tDrop (tCall (sp_check_few K C) [] E (tCons (tVar 0) tNil)))
      (tRet (tCall (sp_all_rings K) [] E0 (tCons (tVar 0) tNil))))
theorem pure_rings {K : PySem.W.Frag} {C : Ad} {vs : List V} {H : Hp} {Q : VK} {E : XK} {D : Ends} (hD : D.rt = Q) (h : sp_rings K C vs H Q E) : t_rings K C E D (start ["grid"] vs) H := by
  obtain ⟨v, rfl, h⟩ := h
  subst hD
  change t_rings K C E D [some v] H
  rcases h with ⟨hb, q⟩ | ⟨g, h, w, rfl, hs, gk, ⟨hb, q⟩ | ⟨hm, q⟩⟩
  · exact ⟨v, rfl, v, rfl, .inl ⟨hb, q⟩⟩
  · exact ⟨_, rfl, _, rfl, .inr ⟨g, h, w, rfl, hs, gk, .inl ⟨hb, q⟩⟩⟩
  · refine ⟨_, rfl, _, rfl, .inr ⟨g, h, w, rfl, hs, gk, .inr ⟨hm, fun H1 e1 => ?_⟩⟩⟩
    exact s_retP (ep_all_rings (K := K) (est_of (ev_var rfl) (ex_t e1 hs)) gk hm) fun v H2 e2 z => q v H2 (e1.trans e2) (z.back e1)
/-! ### check_clues -/
/-- what stands in a list of rows -/
inductive Row
  | other
  | row (ys : List V)
def RowIs (K : PySem.W.Frag) (H : Hp) (x : V) : Row → Prop
  | .other => ∃ n, Known K H x n ∧ n ≠ "list"
  | .row ys => ∃ r, x = .ref r ∧ SqL K H r ys ∧ ys.length ≤ 1000 ∧ ∀ y ∈ ys, ∃ n, Known K H y n
theorem RowIs.mono {K : PySem.W.Frag} {H H' : Hp} {x : V} {r : Row} (e : Ex H H') (h : RowIs K H x r) : RowIs K H' x r := by
  cases r with
  | other => exact h.imp fun n z => ⟨z.1.mono e, z.2⟩
  | row ys =>
    obtain ⟨r, rfl, h1, h2, h3⟩ := h
    exact ⟨r, rfl, ex_l e h1, h2, fun y hy => (h3 y hy).imp fun n z => z.mono e⟩
def Row.isRow : Row → Bool
  | .other => false
  | .row _ => true
def Row.len : Row → Nat
  | .other => 0
  | .row ys => ys.length
def Row.fine : Row → Bool
  | .other => false
  | .row ys => ys.all (inRange (-1) 4)
def cluesChk (rows : List Row) : Bool :=
  ((decide (1 ≤ rows.length) && decide (rows.length ≤ 6)) && rows.all Row.isRow) &&
  (((decide (1 ≤ (rows.headD .other).len) && decide ((rows.headD .other).len ≤ 6)) && (decide (rows.length * (rows.headD .other).len ≤ 9) && rows.all fun r => decide (r.len = (rows.headD .other).len))) && rows.all Row.fine)
def DoorC (K : PySem.W.Frag) (C : Ad) (v : V) (H : Hp) (E : XK) (ok : Addr → List Row → Prop) : Prop :=
  ((∃ n, Known K H v n ∧ n ≠ "list") ∧ RetE C.cBadClues H E) ∨ ∃ a xs rows, v = .ref a ∧ SqL K H a xs ∧ xs.length ≤ 1000 ∧ Paired (RowIs K H) xs rows ∧ ((cluesChk rows = false ∧ RetE C.cBadClues H E) ∨ (cluesChk rows = true ∧ ok a rows))
def sp_check_clues (K : PySem.W.Frag) (C : Ad) : Sp := fun vs H Q E => ∃ v, vs = [v] ∧ DoorC K C v H E fun _ _ => RetV .non H Q
def t_check_clues (K : PySem.W.Frag) (C : Ad) (E : XK) : TS := (tSeq (tIfS (tOr (tNot (tB (tCB (rIsi K) (tCons (tVar 0) (tCons (tC (.ty "list")) tNil))))) (tOr (tNot (tTest (tChain oLe oLe (tC (.int 1)) (tCB (rLenS K) (tCons (tVar 0) tNil)) (tC (.int 6))))) (tNot (tB (tCB (rAll K) (tCons (tLc (iList K (tVar 0)) (gName 2) tYes (tCB (rIsi K) (tCons (tVar 2) (tCons (tC (.ty "list")) tNil))) [2]) tNil)))))) (tRaise E (.ref C.cBadClues)) tNext)
      (tSeq (tAsg (tCB (rLenS K) (tCons (tOp (rIxL K) (tVar 0) (tC (.int 0))) tNil)) (gName 1))
      (tSeq (tIfS (tOr (tNot (tTest (tChain oLe oLe (tC (.int 1)) (tVar 1) (tC (.int 6))))) (tOr (tTest (tOp oGt (tOp oMul (tCB (rLenS K) (tCons (tVar 0) tNil)) (tVar 1)) (tC (.int 9)))) (tNot (tB (tCB (rAll K) (tCons (tLc (iList K (tVar 0)) (gName 2) tYes (tOp rEq (tCB (rLenS K) (tCons (tVar 2) tNil)) (tVar 1)) [2]) tNil)))))) (tRaise E (.ref C.cBadClues)) tNext)
      (tIfS (tNot (tB (tCB (rAll K) (tCons (tLc (iList K (tVar 0)) (gName 2) tYes (tCB (rAll K) (tCons (tLc (iList K (tVar 2)) (gName 3) tYes (tAndV (tCall (sp_is_whole K) [] E0 (tCons (tVar 3) tNil)) (tChain oLe oLe (tUn oNeg (tC (.int 1))) (tVar 3) (tC (.int 4)))) [3]) tNil)) [2]) tNil)))) (tRaise E (.ref C.cBadClues)) tNext))))
/-- all([t for row in clues]), t told by the row -/
theorem ev_allRows {K : PySem.W.Frag} {σ : L2.St} {H : Hp} {te tl : TE} {a : Addr} {xs : List V} {rows : List Row} {j : Nat} {vs : List Nat} (f : Row → Bool) (h : Ev tl σ H (.ref a)) (hs : SqL K H a xs) (hl : xs.length ≤ 1000) (hp : Paired (RowIs K H) xs rows) (hw : ∀ x, wipe ((wipe σ vs).set j (some x)) vs = wipe σ vs)
    (ht : ∀ (x : V) (r : Row) H1, Ex H H1 → r ∈ rows → RowIs K H1 x r → Ev te ((wipe σ vs).set j (some x)) H1 (.bl (f r))) : Ev (tCB (rAll K) (tCons (tLc (iList K tl) (gName j) tYes te vs) tNil)) σ H (.bl (rows.all f)) := by
  have w := el_lcL (K := K) (t := tYes) (te := te) (j := j) (vs := vs) (fun _ => true) (fun i => V.bl (f (rows.getD i .other))) h hs (by omega) hw (fun _ _ _ _ _ => et_yes) (fun i x H1 e1 hx _ => by
    obtain ⟨r, hr, hf⟩ := paired_get hp hx
    have e : rows.getD i .other = r := by rw [List.getD_eq_getElem?_getD, hr]; rfl
    show Ev te _ H1 (V.bl (f (rows.getD i .other)))
    rw [e]
    exact ht x r H1 e1 (List.mem_of_getElem? hr) (hf.mono e1))
  have e : given xs.length (fun _ => true) (fun i => V.bl (f (rows.getD i .other))) = (rows.map f).map V.bl := by
    unfold given
    rw [filter_yes, Paired.length hp, List.map_map]
    refine List.ext_getElem? fun i => ?_
    rw [List.getElem?_map, List.getElem?_map]
    by_cases hi : i < rows.length
    · rw [List.getElem?_range hi, List.getElem?_eq_getElem hi]
      simp [List.getD_eq_getElem?_getD, hi]
    · rw [List.getElem?_eq_none (by rw [List.length_range]; omega), List.getElem?_eq_none (by omega)]
      rfl
  rw [e] at w
  refine ev_is (ev_allS (K := K) (es_new (K := K) w)) ?_
  rw [List.all_map]
  rfl
theorem row_list {K : PySem.W.Frag} {H : Hp} {x : V} {r : Row} (h : RowIs K H x r) : ∃ n, Known K H x n ∧ (n == "list") = r.isRow := by
  cases r with
  | other =>
    obtain ⟨n, hk, hn⟩ := h
    exact ⟨n, hk, by simpa [Row.isRow] using hn⟩
  | row ys =>
    obtain ⟨r, rfl, h1, _⟩ := h
    exact ⟨"list", ⟨ty_list h1, by decide⟩, rfl⟩
theorem row_of {K : PySem.W.Frag} {H : Hp} {x : V} {r : Row} (h : RowIs K H x r) (hr : r.isRow = true) : ∃ q ys, r = .row ys ∧ x = .ref q ∧ SqL K H q ys ∧ ys.length ≤ 1000 ∧ ∀ y ∈ ys, ∃ n, Known K H y n := by
  cases r with
  | other => cases hr
  | row ys =>
    obtain ⟨q, rfl, h1, h2, h3⟩ := h
    exact ⟨q, ys, rfl, rfl, h1, h2, h3⟩
theorem ev_fine {K : PySem.W.Frag} {σ : L2.St} {H : Hp} {q : Addr} {ys : List V} {i j : Nat} {vs : List Nat} (hi : σ[i]? = some (some (.ref q))) (hs : SqL K H q ys) (hl : ys.length ≤ 1000) (hk : ∀ y ∈ ys, ∃ n, Known K H y n) (hw : ∀ x, wipe ((wipe σ vs).set j (some x)) vs = wipe σ vs) (hj : ∀ x : V, ((wipe σ vs).set j (some x))[j]? = some (some x)) :
    Ev (tCB (rAll K) (tCons (tLc (iList K (tVar i)) (gName j) tYes (tAndV (tCall (sp_is_whole K) [] E0 (tCons (tVar j) tNil)) (tChain oLe oLe (tUn oNeg (tC (.int 1))) (tVar j) (tC (.int 4)))) vs) tNil)) σ H (.bl (ys.all (inRange (-1) 4))) := by
  have e : (((ys.filter fun _ => true).map fun x => V.bl (inRange (-1) 4 x))) = (ys.map (inRange (-1) 4)).map V.bl := by
    rw [filter_yes, List.map_map]
    rfl
  have w := el_lc (K := K) (σ := σ) (H := H) (xs := ys) (tl := tVar i) (t := tYes) (te := tAndV (tCall (sp_is_whole K) [] E0 (tCons (tVar j) tNil)) (tChain oLe oLe (tUn oNeg (tC (.int 1))) (tVar j) (tC (.int 4)))) (j := j) (vs := vs) (fun _ => true) (fun x => V.bl (inRange (-1) 4 x)) (es_of (ev_var hi) hs) (by omega) hw (fun x H1 e1 hx => et_yes) (fun x H1 e1 hx _ => by
    obtain ⟨n, hn⟩ := hk x hx
    have r : inRange (-1) 4 x = (isInt x && inRange (-1) 4 x) := by cases x <;> rfl
    rw [r]
    refine ev_andV (ev_is_whole (ea_cons (ev_var (hj _)) ea_nil) (hn.mono e1)) (fun hi => ?_)
    obtain ⟨m, rfl⟩ := isInt_of hi
    exact ev_chain (ev_un ev_c ru_neg) (ev_var (hj _)) rv_I0 (fun _ => ev_c) (fun _ => rv_I0))
  rw [e] at w
  have z := ev_allS (K := K) (es_new (K := K) w)
  rw [List.all_map] at z
  exact z
theorem pure_check_clues {K : PySem.W.Frag} {C : Ad} {vs : List V} {H : Hp} {Q : VK} {E : XK} {D : Ends} (hD : D.nx = fun _ H' => Q .non H') (h : sp_check_clues K C vs H Q E) : t_check_clues K C E D (start ["clues", "wide", "row", "clue"] vs) H := by
  obtain ⟨v, rfl, h⟩ := h
  change t_check_clues K C E D [some v, none, none, none] H
  rcases h with ⟨⟨n, hk, hn⟩, q⟩ | ⟨a, xs, rows, rfl, hs, hl, hp, h⟩
  · have e : (n == "list") = false := by simpa using hn
    refine q_when (b := true) (et_is (et_or (b := true) (et_not (et_B (ev_isiList (ev_var rfl) hk))) (fun z => ?_)) (by rw [e]; rfl)) (fun _ H1 e1 => q H1 e1) (fun z => nomatch z)
    rw [e] at z
    cases z
  · have pl := Paired.length hp
    have t1 := et_or (et_not (et_B (ev_isiList (K := K) (σ := [some (.ref a), none, none, none]) (H := H) (ta := tVar 0) (ev_var rfl) ⟨ty_list hs, by decide⟩))) (fun _ => et_or (et_not (et_test (ev_chain (r := oLe) (r' := oLe) (x := .int 1) (z := .int 6) ev_c (ev_lenS (K := K) (ta := tVar 0) (es_of (ev_var rfl) hs)) rv_I0 (fun _ => ev_c) (fun _ => rv_I0)))) (fun _ => et_not (et_B (ev_allRows (K := K) (j := 2) (vs := [2]) (te := tCB (rIsi K) (tCons (tVar 2) (tCons (tC (.ty "list")) tNil))) Row.isRow (ev_var (i := 0) rfl) hs hl hp (fun _ => rfl) (fun x r H1 e1 hr hx => by
      obtain ⟨n, hk, hn⟩ := row_list hx
      exact ev_is (ev_isiList (ev_var rfl) hk) (by rw [hn]))))))
    have hbad : cluesChk rows = false → RetE C.cBadClues H E := fun z => by
      rcases h with ⟨_, q⟩ | ⟨hc, _⟩
      · exact q
      · rw [hc] at z; cases z
    refine q_when t1 (fun hb H1 e1 => hbad ?_ H1 e1) (fun hb H1 e1 => ?_)
    · have hb' : ((decide (1 ≤ rows.length) && decide (rows.length ≤ 6)) && rows.all Row.isRow) = false := by
        rw [pl] at hb
        simp only [beq_self_eq_true, Bool.not_true, Bool.false_or, Bool.or_eq_true, Bool.not_eq_true'] at hb
        rcases hb with z | z
        · have : (decide (1 ≤ rows.length) && decide (rows.length ≤ 6)) = false := by
            rw [Bool.and_eq_false_iff, decide_eq_false_iff_not, decide_eq_false_iff_not] at z ⊢
            omega
          rw [this, Bool.false_and]
        · rw [z, Bool.and_false]
      unfold cluesChk
      rw [hb', Bool.false_and]
    · have hb' : ((decide (1 ≤ rows.length) && decide (rows.length ≤ 6)) && rows.all Row.isRow) = true := by
        rw [pl] at hb
        simp only [beq_self_eq_true, Bool.not_true, Bool.false_or, Bool.or_eq_false_iff, Bool.not_eq_false'] at hb
        obtain ⟨z, z2⟩ := hb
        rw [z2, Bool.and_true]
        rw [Bool.and_eq_true, decide_eq_true_eq, decide_eq_true_eq] at z ⊢
        omega
      have cc : cluesChk rows = (((decide (1 ≤ (rows.headD .other).len) && decide ((rows.headD .other).len ≤ 6)) && (decide (rows.length * (rows.headD .other).len ≤ 9) && rows.all fun r => decide (r.len = (rows.headD .other).len))) && rows.all Row.fine) := by
        unfold cluesChk
        rw [hb', Bool.true_and]
      have hrows : ∀ r ∈ rows, r.isRow = true := List.all_eq_true.mp (Bool.and_eq_true _ _ ▸ hb').2
      have hlen : 1 ≤ rows.length ∧ rows.length ≤ 6 := by
        have := (Bool.and_eq_true _ _ ▸ hb').1
        rw [Bool.and_eq_true, decide_eq_true_eq, decide_eq_true_eq] at this
        exact this
      have hs1 := ex_l e1 hs
      have hp1 : Paired (RowIs K H1) xs rows := Paired.mapP hp fun x r z => z.mono e1
      have w0 : Ev (tCB (rLenS K) (tCons (tOp (rIxL K) (tVar 0) (tC (.int 0))) tNil)) [some (.ref a), none, none, none] H1 (.int ((rows.headD .other).len : Int)) := by
        cases hp1 with
        | nil => simp at hlen
        | cons h3 h4 =>
          obtain ⟨q, ys, rfl, rfl, h5, _⟩ := row_of h3 (hrows _ List.mem_cons_self)
          exact ev_lenS (K := K) (es_of (ev_ixS (es_of (ev_var rfl) hs1) ev_c (atI_nat (j := 0) rfl)) h5)
      refine q_asg (i := 1) w0 fun H2 e2 => ?_
      have hs2 := ex_l e2 hs1
      have hp2 : Paired (RowIs K H2) xs rows := Paired.mapP hp1 fun x r z => z.mono e2
      have wl : (rows.headD .other).len ≤ 1000 := by
        cases hp1 with
        | nil => simp at hlen
        | cons h3 h4 =>
          obtain ⟨q, ys, rfl, rfl, h5, h6, _⟩ := row_of h3 (hrows _ List.mem_cons_self)
          exact h6
      generalize (rows.headD .other).len = wd at *
      have t2 := et_or (et_not (et_test (ev_chain (r := oLe) (r' := oLe) (σ := [some (.ref a), some (.int (wd : Int)), none, none]) (H := H2) (x := .int 1) (z := .int 6) ev_c (ev_var (i := 1) rfl) rv_I0 (fun _ => ev_c) (fun _ => rv_I0)))) (fun _ => et_or (et_test (ev_op (r := oGt) (y := .int 9) (ev_op (r := oMul) (y := .int (wd : Int)) (ev_lenS (K := K) (ta := tVar 0) (es_of (ev_var rfl) hs2)) (ev_var (i := 1) rfl) (rv_I (.inl ⟨by omega, by omega⟩))) ev_c rv_I0)) (fun _ => et_not (et_B (ev_allRows (K := K) (j := 2) (vs := [2]) (te := tOp rEq (tCB (rLenS K) (tCons (tVar 2) tNil)) (tVar 1)) (fun r => decide (r.len = wd)) (ev_var (i := 0) rfl) hs2 hl hp2 (fun _ => rfl) (fun x r H3 e3 hr hx => by
        obtain ⟨q, ys, rfl, rfl, h5, _⟩ := row_of hx (hrows r hr)
        refine ev_is (ev_op (x := .int (ys.length : Int)) (y := .int (wd : Int)) (ev_lenS (K := K) (es_of (ev_var rfl) h5)) (ev_var rfl) (rv_eq rfl)) ?_
        show V.bl (decide (V.int (ys.length : Int) = V.int (wd : Int))) = V.bl (decide (ys.length = wd))
        congr 1
        rw [Bool.eq_iff_iff, decide_eq_true_eq, decide_eq_true_eq, V.int.injEq]
        omega)))))
      have cast : ((xs.length : Int) * (wd : Int)) = ((rows.length * wd : Nat) : Int) := by rw [pl, Int.natCast_mul]
      refine q_when t2 (fun hb2 H3 e3 => hbad ?_ H3 ((e1.trans e2).trans e3)) (fun hb2 H3 e3 => ?_)
      · rw [cc]
        rw [cast] at hb2
        have : ((decide (1 ≤ wd) && decide (wd ≤ 6)) && (decide (rows.length * wd ≤ 9) && rows.all fun r => decide (r.len = wd))) = false := by
          simp only [Bool.or_eq_true, Bool.not_eq_true', decide_eq_true_eq] at hb2
          rcases hb2 with z | z | z
          · have : (decide (1 ≤ wd) && decide (wd ≤ 6)) = false := by
              rw [Bool.and_eq_false_iff, decide_eq_false_iff_not, decide_eq_false_iff_not] at z ⊢
              omega
            rw [this, Bool.false_and]
          · have : decide (rows.length * wd ≤ 9) = false := decide_eq_false (by omega)
            rw [this, Bool.false_and, Bool.and_false]
          · rw [z, Bool.and_false, Bool.and_false]
        rw [this, Bool.false_and]
      · have c2 : ((decide (1 ≤ wd) && decide (wd ≤ 6)) && (decide (rows.length * wd ≤ 9) && rows.all fun r => decide (r.len = wd))) = true := by
          rw [cast] at hb2
          simp only [Bool.or_eq_false_iff, Bool.not_eq_false', decide_eq_false_iff_not] at hb2
          obtain ⟨z1, z2, z3⟩ := hb2
          rw [Bool.and_eq_true, decide_eq_true_eq, decide_eq_true_eq] at z1
          rw [z3, Bool.and_true, Bool.and_eq_true, Bool.and_eq_true, decide_eq_true_eq, decide_eq_true_eq, decide_eq_true_eq]
          omega
        rw [c2, Bool.true_and] at cc
        have hs3 := ex_l e3 hs2
        have hp3 : Paired (RowIs K H3) xs rows := Paired.mapP hp2 fun x r z => z.mono e3
        have t3 := et_not (et_B (ev_allRows (K := K) (σ := [some (.ref a), some (.int (wd : Int)), none, none]) (j := 2) (vs := [2]) (te := tCB (rAll K) (tCons (tLc (iList K (tVar 2)) (gName 3) tYes (tAndV (tCall (sp_is_whole K) [] E0 (tCons (tVar 3) tNil)) (tChain oLe oLe (tUn oNeg (tC (.int 1))) (tVar 3) (tC (.int 4)))) [3]) tNil)) Row.fine (ev_var (i := 0) rfl) hs3 hl hp3 (fun _ => rfl) (fun x r H4 e4 hr hx => by
          obtain ⟨q, ys, rfl, rfl, h5, h6, h7⟩ := row_of hx (hrows r hr)
          exact ev_fine rfl h5 h6 h7 (fun _ => rfl) (fun _ => rfl))))
        refine s_when t3 (fun hb3 H4 e4 => hbad ?_ H4 (((e1.trans e2).trans e3).trans e4)) (fun hb3 H4 e4 => ?_)
        · rw [cc]
          simpa using hb3
        · rw [hD]
          rcases h with ⟨hc, _⟩ | ⟨_, q⟩
          · rw [cc] at hc
            rw [hc] at hb3
            cases hb3
          · exact q H4 (((e1.trans e2).trans e3).trans e4)

/-! ### fitting, told -/
def rowsOf (nss : List (List Int)) : List Row := nss.map fun ns => .row (ns.map V.int)
def cluesB (nss : List (List Int)) : Bool :=
  ((decide (1 ≤ nss.length) && decide (nss.length ≤ 6)) && ((decide (1 ≤ (nss.headD []).length) && decide ((nss.headD []).length ≤ 6)) && decide (nss.length * (nss.headD []).length ≤ 9))) &&
  ((nss.all fun ns => decide (ns.length = (nss.headD []).length)) && nss.all fun ns => ns.all fun n => decide (-1 ≤ n) && decide (n ≤ 4))
theorem rowsOf_head (nss : List (List Int)) : ((rowsOf nss).headD .other).len = (nss.headD []).length := by
  cases nss with
  | nil => rfl
  | cons a r => exact List.length_map ..
theorem rowsOf_chk (nss : List (List Int)) (h : cluesB nss = true) : cluesChk (rowsOf nss) = true := by
  unfold cluesB at h
  simp only [Bool.and_eq_true, List.all_eq_true, decide_eq_true_eq] at h
  obtain ⟨⟨h1, h2, h3⟩, h4, h5⟩ := h
  unfold cluesChk
  rw [rowsOf_head]
  have ln : (rowsOf nss).length = nss.length := List.length_map ..
  simp only [Bool.and_eq_true, List.all_eq_true, decide_eq_true_eq, ln]
  have mem : ∀ r ∈ rowsOf nss, ∃ ns ∈ nss, r = .row (ns.map V.int) := fun r hr => by
    obtain ⟨ns, h, e⟩ := List.mem_map.mp hr
    exact ⟨ns, h, e.symm⟩
  refine ⟨⟨h1, fun r hr => ?_⟩, ⟨h2, h3, fun r hr => ?_⟩, fun r hr => ?_⟩
  · obtain ⟨ns, _, rfl⟩ := mem r hr
    rfl
  · obtain ⟨ns, hn, rfl⟩ := mem r hr
    rw [← h4 ns hn]
    exact List.length_map ..
  · obtain ⟨ns, hn, rfl⟩ := mem r hr
    show (ns.map V.int).all (inRange (-1) 4) = true
    rw [List.all_map, List.all_eq_true]
    intro x hx
    have := h5 ns hn x hx
    simp only [Function.comp, inRange, Bool.and_eq_true, decide_eq_true_eq]
    exact this
theorem cluesB_R {nss : List (List Int)} (h : cluesB nss = true) : CluesR nss := by
  unfold cluesB at h
  simp only [Bool.and_eq_true, List.all_eq_true, decide_eq_true_eq] at h
  obtain ⟨⟨h1, h2, h3⟩, h4, h5⟩ := h
  exact ⟨⟨h1.1, h1.2, h2.1, h2.2⟩, h3, fun ns hn => by rw [h4 ns hn]; omega⟩
theorem rowIs_of {K : PySem.W.Frag} {H : Hp} : ∀ {rs : List Addr} {nss : List (List Int)}, (∀ ns ∈ nss, ns.length ≤ 1000) → Paired (fun (r : Addr) (ns : List Int) => SqL K H r (ns.map V.int)) rs nss → Paired (RowIs K H) (rs.map V.ref) (rowsOf nss)
  | [], [], _, .nil => .nil
  | r :: rs, ns :: nss, hl, .cons h hs => .cons ⟨r, rfl, h, by rw [List.length_map]; exact hl ns List.mem_cons_self, fun y hy => by
      obtain ⟨m, _, rfl⟩ := List.mem_map.mp hy
      exact ⟨_, known_int m⟩⟩ (rowIs_of (fun m hm => hl m (List.mem_cons_of_mem _ hm)) hs)
theorem doorC_good {K : PySem.W.Frag} {C : Ad} {a : Addr} {H : Hp} {E : XK} {nss : List (List Int)} {ok : Addr → List Row → Prop} (hr : RowsAt K H a nss) (hb : cluesB nss = true) (h : ok a (rowsOf nss)) : DoorC K C (.ref a) H E ok := by
  have ck := cluesB_R hb
  obtain ⟨rs, h1, h2⟩ := hr
  have := ck.g.2.1
  exact .inr ⟨a, _, rowsOf nss, rfl, h1, by rw [List.length_map, Paired.length h2]; omega, rowIs_of ck.len h2, .inr ⟨rowsOf_chk nss hb, h⟩⟩
def OkC (K : PySem.W.Frag) (H : Hp) (R : List (List Int) → Prop) : Addr → List Row → Prop := fun a _ => ∃ nss, RowsAt K H a nss ∧ CluesR nss ∧ R nss
theorem DoorC.mono {K : PySem.W.Frag} {C : Ad} {v : V} {H : Hp} {E : XK} {ok ok' : Addr → List Row → Prop} (h : DoorC K C v H E ok) (hk : ∀ a rows, v = .ref a → ok a rows → ok' a rows) : DoorC K C v H E ok' := by
  rcases h with h | ⟨a, xs, rows, rfl, h1, h2, h3, h⟩
  · exact .inl h
  · exact .inr ⟨a, xs, rows, rfl, h1, h2, h3, h.imp id fun z => ⟨z.1, hk a rows rfl z.2⟩⟩
def sp_fitting (K : PySem.W.Frag) (C : Ad) : Sp := fun vs H Q E => ∃ v, vs = [v] ∧ DoorC K C v H E (OkC K H fun nss => RetP (fun H1 v H2 => NewLL H1 v H2 (ints2 (fittingOf nss))) H Q)
theorem ep_fitting {K : PySem.W.Frag} {C : Ad} {σ : L2.St} {H : Hp} {ta : TA} {E : XK} {a : Addr} {nss : List (List Int)} (ha : EvA ta σ H [.ref a]) (hr : RowsAt K H a nss) (hb : cluesB nss = true) : EvP (tCall (sp_fitting K C) [] E ta) σ H (fun H1 v H2 => NewLL H1 v H2 (ints2 (fittingOf nss))) := fun H1 e Q q =>
  ha H1 e _ fun H2 e2 => ⟨_, rfl, doorC_good (hr.mono (e.trans e2)) hb ⟨nss, hr.mono (e.trans e2), cluesB_R hb, fun v H3 e3 z => q v H3 (e2.trans e3) (z.back e2)⟩⟩
def t_fitting (K : PySem.W.Frag) (C : Ad) (E : XK) : TS := (tSeq (tDrop (tCall (sp_check_clues K C) [] E (tCons (tVar 0) tNil)))
      (tRet (tCall (sp_fitting_of K) [] E0 (tCons (tVar 0) tNil))))
theorem pure_fitting {K : PySem.W.Frag} {C : Ad} {vs : List V} {H : Hp} {Q : VK} {E : XK} {D : Ends} (hD : D.rt = Q) (h : sp_fitting K C vs H Q E) : t_fitting K C E D (start ["clues"] vs) H := by
  obtain ⟨v, rfl, h⟩ := h
  subst hD
  change t_fitting K C E D [some v] H
  refine ⟨v, rfl, v, rfl, h.mono fun a rows hv hk H1 e1 => ?_⟩
  obtain ⟨nss, hr, ck, q⟩ := hk
  subst hv
  exact s_retP (ep_fitting_of (K := K) (ea_cons (ev_var rfl) ea_nil) (hr.mono e1) ck) fun v H2 e2 z => q v H2 (e1.trans e2) (z.back e1)
inductive Tld
  | never
  | one (a : List Int)
  | two (a b : List Int)
deriving DecidableEq
def toldM (nss : List (List Int)) : Tld :=
  match fittingOf nss with
  | [] => .never
  | [a] => .one a
  | a :: b :: _ => .two a b
def NewTold (C : Ad) : Tld → Hp → V → Hp → Prop
  | .never => NewI C.cNever []
  | .one a => NewOne C (a.map V.int)
  | .two a b => NewTwo C (a.map V.int) (b.map V.int)
theorem NewTold.back {C : Ad} {a : Tld} {H0 H1 H2 : Hp} {v : V} (e : Ex H0 H1) (h : NewTold C a H1 v H2) : NewTold C a H0 v H2 := by
  cases a with
  | never => exact NewI.back e h
  | one a =>
    obtain ⟨p, dx, l, rfl, hp, hl, h1, h2⟩ := h
    exact ⟨p, dx, l, rfl, fresh_back e hp, fresh_back e hl, h1, h2⟩
  | two a b =>
    obtain ⟨p, dx, l, m, rfl, hp, hl, hm, lm, h1, h2, h3⟩ := h
    exact ⟨p, dx, l, m, rfl, fresh_back e hp, fresh_back e hl, fresh_back e hm, lm, h1, h2, h3⟩
def sp_told (K : PySem.W.Frag) (C : Ad) : Sp := fun vs H Q E => ∃ v, vs = [v] ∧ DoorC K C v H E (OkC K H fun nss => RetP (NewTold C (toldM nss)) H Q)
theorem ep_told {K : PySem.W.Frag} {C : Ad} {σ : L2.St} {H : Hp} {ta : TA} {E : XK} {a : Addr} {nss : List (List Int)} (ha : EvA ta σ H [.ref a]) (hr : RowsAt K H a nss) (hb : cluesB nss = true) : EvP (tCall (sp_told K C) [] E ta) σ H (NewTold C (toldM nss)) := fun H1 e Q q =>
  ha H1 e _ fun H2 e2 => ⟨_, rfl, doorC_good (hr.mono (e.trans e2)) hb ⟨nss, hr.mono (e.trans e2), cluesB_R hb, fun v H3 e3 z => q v H3 (e2.trans e3) (z.back e2)⟩⟩
def t_told (K : PySem.W.Frag) (C : Ad) (E : XK) : TS := (tSeq (tDrop (tCall (sp_check_clues K C) [] E (tCons (tVar 0) tNil)))
      (tSeq (tAsg (tCall (sp_fitting_of K) [] E0 (tCons (tVar 0) tNil)) (gName 1))
      (tSeq (tIfS (tTest (tOp (rEqD K) (tVar 1) (tLst tNil))) (tRet (tBare C.cNever)) tNext)
      (tRet (tIf (tTest (tOp rEq (tCB (rLenS K) (tCons (tVar 1) tNil)) (tC (.int 1)))) (tMake C.cOne (sp_One_init K C) [] E0 (tCons (tOp (rIxL K) (tVar 1) (tC (.int 0))) tNil)) (tMake C.cTwo (sp_Two_init K C) [] E0 (tCons (tOp (rIxL K) (tVar 1) (tC (.int 0))) (tCons (tOp (rIxL K) (tVar 1) (tC (.int 1))) tNil))))))))
theorem pure_told {K : PySem.W.Frag} {C : Ad} {vs : List V} {H : Hp} {Q : VK} {E : XK} {D : Ends} (hD : D.rt = Q) (h : sp_told K C vs H Q E) : t_told K C E D (start ["clues", "found"] vs) H := by
  obtain ⟨v, rfl, h⟩ := h
  subst hD
  change t_told K C E D [some v, none] H
  refine ⟨v, rfl, v, rfl, h.mono fun a rows hv hk H1 e1 => ?_⟩
  obtain ⟨nss, hr, ck, q⟩ := hk
  subst hv
  refine q_asgP (i := 1) (ep_fitting_of (K := K) (ea_cons (ev_var rfl) ea_nil) (hr.mono e1) ck) fun v H2 e2 hv => ?_
  have tm : toldM nss = match fittingOf nss with | [] => .never | [a] => .one a | a :: b :: _ => .two a b := rfl
  have dv : Dp K H2 v (dII (fittingOf nss)) := hv.dp
  obtain ⟨p, bs, rfl, hp, h2, hbs, hb⟩ := hv.bs
  generalize fittingOf nss = fs at *
  refine q_when (b := decide (fs = [])) (et_is (et_test (ev_eqD (d' := dII []) (ed_of (ev_var rfl) dv) (ed_lst ead_nil (by simp)) (shaped_rows _) (shaped_rows _))) (by rw [eqv_dII])) (fun hb' H3 e3 => ?_) (fun hb' H3 e3 => ?_)
  · have : fs = [] := of_decide_eq_true hb'
    subst this
    refine s_retP ep_bare fun v H4 e4 z => q v H4 (((e1.trans e2).trans e3).trans e4) ?_
    rw [tm]
    exact NewI.back ((e1.trans e2).trans e3) z
  · have hn : fs ≠ [] := of_decide_eq_false hb'
    have h3 := e3 _ _ h2
    have hb3 : ∀ b ∈ bs, H3 b.1 = some (.lst (b.2.map V.int)) := fun b m => e3 _ _ (hb b m).2
    refine s_retP (R := NewTold C (toldM nss)) (ep_if (b := decide (fs.length = 1)) (fun e z => z.back e) (et_is (et_test (ev_op (x := .int (fs.length : Int)) (ev_is (ev_lenS (K := K) (es_of (ev_var rfl) (sq_of h3))) ?_) (ev_c (v := .int 1)) (rv_eq rfl))) ?_) (fun hl => ?_) (fun hl => ?_)) fun v H4 e4 z => q v H4 (((e1.trans e2).trans e3).trans e4) (z.back ((e1.trans e2).trans e3))
    · rw [hbs, List.length_map, List.length_map]
    · rw [Bool.eq_iff_iff, decide_eq_true_eq, decide_eq_true_eq, V.int.injEq]
      omega
    · have hl := of_decide_eq_true hl
      cases bs with
      | nil => exact absurd hbs hn
      | cons b r =>
        cases r with
        | nil =>
          subst hbs
          rw [tm]
          exact ep_One (es_of (ev_ixS (es_of (ev_var rfl) (sq_of h3)) ev_c (atI_nat (j := 0) rfl)) (sq_of (hb3 b List.mem_cons_self)))
        | cons c r => rw [hbs] at hl; simp at hl
    · have hl := of_decide_eq_false hl
      cases bs with
      | nil => exact absurd hbs hn
      | cons b r =>
        cases r with
        | nil => rw [hbs] at hl; simp at hl
        | cons c r =>
          subst hbs
          rw [tm]
          exact ep_Two (K := K) (C := C) (ev_ixS (es_of (ev_var rfl) (sq_of h3)) ev_c (atI_nat (j := 0) rfl)) (ev_ixS (es_of (ev_var rfl) (sq_of h3)) ev_c (atI_nat (j := 1) rfl)) (hb3 b List.mem_cons_self) (hb3 c (List.mem_cons_of_mem _ List.mem_cons_self))

/-! ### lists of pairs -/
/-- refs to tuples of two ints -/
def Prs (K : PySem.W.Frag) (H : Hp) : List Addr → List (Int × Int) → Prop := Paired fun q pr => SqT K H q [.int pr.1, .int pr.2]
theorem Prs.mono {K : PySem.W.Frag} {H H' : Hp} {ps : List Addr} {prs : List (Int × Int)} (e : Ex H H') (h : Prs K H ps prs) : Prs K H' ps prs := Paired.mapP h fun _ _ z => ex_t e z
theorem paired_get {α β : Type} {F : α → β → Prop} : ∀ {l : List α} {m : List β} {i : Nat} {a : α}, Paired F l m → l[i]? = some a → ∃ b, m[i]? = some b ∧ F a b
  | _ :: _, _ :: _, 0, _, .cons h _, e => by
    have := Option.some.inj e
    subst this
    exact ⟨_, rfl, h⟩
  | _ :: _, _ :: _, i + 1, a, .cons _ hs, e => paired_get (i := i) (a := a) hs e
/-- arguments that are written pairs of ints -/
def EvAP (K : PySem.W.Frag) (ta : TA) (σ : L2.St) (H : Hp) (prs : List (Int × Int)) : Prop := ∀ H1, Ex H H1 → ∀ Q : List V → Hp → Prop, (∀ ps H2, Ex H1 H2 → Prs K H2 ps prs → Q (ps.map V.ref) H2) → ta σ H1 Q
section
variable {K : PySem.W.Frag} {σ : L2.St} {H H' : Hp} {ta tb te tl : TE} {tr : TA} {t : TT} {D : Ends} {tz : TS}
theorem eap_nil : EvAP K tNil σ H [] := fun H1 _ _ q => q [] H1 (Ex.refl H1) .nil
theorem eap_cons {x y : Int} {prs : List (Int × Int)} (h : EvST K ta σ H [.int x, .int y]) (hr : EvAP K tr σ H prs) : EvAP K (tCons ta tr) σ H ((x, y) :: prs) := fun H1 e _ q =>
  h H1 e _ fun p H2 e2 hp => hr H2 (e.trans e2) _ fun ps H3 e3 hs => q (p :: ps) H3 (e2.trans e3) (.cons (ex_t e3 hp) hs)
/-- xs = [(a, b), ..] -/
theorem q_asgPrs {i : Nat} {prs : List (Int × Int)} (h : EvAP K tr σ H prs) (hl : prs.length ≤ 1000) (k : ∀ p ps H1, H p = none → Ex H H1 → H1 p = some (.lst (ps.map V.ref)) → Prs K H1 ps prs → tz D (σ.set i (some (.ref p))) H1) : tSeq (tAsg (tLst tr) (gName i)) tz D σ H :=
  h H (Ex.refl H) _ fun ps H1 e hp => ⟨sz_of (by rw [List.length_map, Paired.length hp]; omega), fun p np => k p ps _ (fresh_back e np) (e.trans (Ex.new np)) upd_same (hp.mono (Ex.new np))⟩
/-- [e for a, b in ps if t], ps a list of pairs -/
theorem el_lcPrs {i j : Nat} {vs : List Nat} {a : Addr} {ps : List Addr} {prs : List (Int × Int)} (f : Int × Int → Bool) (g : Int × Int → V) (h : Ev tl σ H (.ref a)) (ha : SqL K H a (ps.map V.ref)) (hp : Prs K H ps prs) (hz : ps.length ≤ 40000)
    (hw : ∀ x y, wipe (((wipe σ vs).set i (some x)).set j (some y)) vs = wipe σ vs)
    (ht : ∀ (p : Int × Int) H1, Ex H H1 → p ∈ prs → EvT t (((wipe σ vs).set i (some (.int p.1))).set j (some (.int p.2))) H1 (f p)) (he : ∀ (p : Int × Int) H1, Ex H H1 → p ∈ prs → f p = true → Ev te (((wipe σ vs).set i (some (.int p.1))).set j (some (.int p.2))) H1 (g p)) :
    EvL (tLc (iList K tl) (gTup K 2 (gCons (gName i) (gCons (gName j) gNil))) t te vs) σ H ((prs.filter f).map g) := fun H0 e Q q => h H0 e _ fun H1 e1 => ⟨a, rfl, ⟨_, ex_l (e.trans e1) ha⟩, fun Dl hD => by
  have ln : (ps.map V.ref).length = prs.length := by rw [List.length_map]; exact Paired.length hp
  refine lc_list (xs := ps.map V.ref) (fun n => Grow H1 Dl (((prs.take n).filter f).map g)) ⟨hD, Ex.new hD, upd_same⟩ (fun n H' _ p => ex_l ((e.trans e1).trans p.2.1) ha) (fun n x H' hi p => ?_) (fun H' p => ?_)
  · rw [List.getElem?_map] at hi
    obtain ⟨r, hr, rfl⟩ := Option.map_eq_some_iff.mp hi
    obtain ⟨pr, hpr, hq⟩ := paired_get hp hr
    have hm : pr ∈ prs := List.mem_of_getElem? hpr
    refine ⟨r, _, rfl, ex_t ((e.trans e1).trans p.2.1) hq, rfl, _, _, rfl, _, _, rfl, rfl, hw _ _, ?_⟩
    have hlen : (((prs.take n).filter f).map g).length < 100000 := by
      rw [List.length_map]
      have h1 := List.length_filter_le f (prs.take n)
      have h2 : (prs.take n).length ≤ prs.length := by rw [List.length_take]; omega
      rw [List.length_map] at ln
      omega
    have w := grow_turn p hlen (ht pr H1 (e.trans e1) hm) (he pr H1 (e.trans e1) hm)
    have e2 : (((prs.take (n + 1)).filter f).map g) = ((prs.take n).filter f).map g ++ if f pr = true then [g pr] else [] := by
      rw [take_snoc hpr, List.filter_append, List.map_append]
      congr 1
      cases hf : f pr <;> simp [hf]
    rw [e2]
    exact w
  · rw [ln, List.take_length] at p
    exact q Dl H' (fresh_back e1 p.1) (e1.trans p.2.1) p.2.2⟩
end

/-! ### side_ahead -/
def dP (a b : Int) : PyData := .tuple [.int a, .int b]
theorem dp_pair {K : PySem.W.Frag} {H : Hp} {v : V} {a b : Int} (h : Dp K H v (dP a b)) : ∃ p, v = .ref p ∧ SqT K H p [.int a, .int b] := by
  cases h with
  | tup hs ha =>
    cases ha with
    | cons h1 h2 =>
      cases h2 with
      | cons h3 h4 =>
        cases h4
        cases h1
        cases h3
        exact ⟨_, rfl, hs⟩
theorem pair_dp {K : PySem.W.Frag} {H : Hp} {p : Addr} {a b : Int} (h : SqT K H p [.int a, .int b]) : Dp K H (.ref p) (dP a b) := .tup h (.cons (.int a) (.cons (.int b) .nil))
section
variable {K : PySem.W.Frag} {σ : L2.St} {H : Hp} {te ta tb : TE} {D : Ends} {tz : TS} {d : PyData}
theorem q_asgD {i : Nat} (h : EvD K te σ H d) (k : ∀ v H1, Ex H H1 → Dp K H1 v d → tz D (σ.set i (some v)) H1) : tSeq (tAsg te (gName i)) tz D σ H := h H (Ex.refl H) _ fun v H1 e z => k v H1 e z
theorem ed_pair {a b : Int} (ha : Ev ta σ H (.int a)) (hb : Ev tb σ H (.int b)) : EvD K (tTup (tCons ta (tCons tb tNil))) σ H (dP a b) := ed_tup (ead_cons (ed_int ha) (ead_cons (ed_int hb) ead_nil)) (by simp)
end
theorem dp_two {K : PySem.W.Frag} {H : Hp} {v : V} {d e : PyData} (h : Dp K H v (.tuple [d, e])) : ∃ p x y, v = .ref p ∧ SqT K H p [x, y] ∧ Dp K H x d ∧ Dp K H y e := by
  cases h with
  | tup hs ha =>
    cases ha with
    | cons h1 h2 =>
      cases h2 with
      | cons h3 h4 =>
        cases h4
        exact ⟨_, _, _, rfl, hs, h1, h3⟩
theorem dp_four {K : PySem.W.Frag} {H : Hp} {v : V} {d0 d1 d2 d3 : PyData} (h : Dp K H v (.tuple [d0, d1, d2, d3])) : ∃ p x0 x1 x2 x3, v = .ref p ∧ SqT K H p [x0, x1, x2, x3] ∧ Dp K H x0 d0 ∧ Dp K H x1 d1 ∧ Dp K H x2 d2 ∧ Dp K H x3 d3 := by
  cases h with
  | tup hs ha =>
    cases ha with
    | cons h0 h => cases h with
      | cons h1 h => cases h with
        | cons h2 h => cases h with
          | cons h3 h =>
            cases h
            exact ⟨_, _, _, _, _, rfl, hs, h0, h1, h2, h3⟩
/-- of four: the one at t -/
theorem pick4 {K : PySem.W.Frag} {H : Hp} {x0 x1 x2 x3 : V} (f : Nat → PyData) (h0 : Dp K H x0 (f 0)) (h1 : Dp K H x1 (f 1)) (h2 : Dp K H x2 (f 2)) (h3 : Dp K H x3 (f 3)) {t : Nat} (ht : t < 4) : ∃ x, atI [x0, x1, x2, x3] (t : Int) = some x ∧ Dp K H x (f t) := by
  have : t = 0 ∨ t = 1 ∨ t = 2 ∨ t = 3 := by omega
  rcases this with rfl | rfl | rfl | rfl
  · exact ⟨_, atI_nat (j := 0) rfl, h0⟩
  · exact ⟨_, atI_nat (j := 1) rfl, h1⟩
  · exact ⟨_, atI_nat (j := 2) rfl, h2⟩
  · exact ⟨_, atI_nat (j := 3) rfl, h3⟩
def sp_side_ahead (K : PySem.W.Frag) : Sp := fun vs H Q _ => ∃ g c q h w cs r a t, vs = [.ref g, .ref c, .ref q, .int ((t : Nat) : Int)] ∧ SqT K H g [.int ((h : Nat) : Int), .int ((w : Nat) : Int)] ∧ GOk h w ∧ SqL K H c ((cs : List Int).map V.int) ∧ SqT K H q [.int r, .int a] ∧ t < 4 ∧ RetV (.bl (sideAhead h w cs r a t)) H Q
theorem ev_side_ahead {K : PySem.W.Frag} {σ : L2.St} {H : Hp} {ta : TA} {E : XK} {g c q : Addr} {h w t : Nat} {cs : List Int} {r a : Int} (ha : EvA ta σ H [.ref g, .ref c, .ref q, .int (t : Int)]) (hs : SqT K H g [.int (h : Int), .int (w : Int)]) (gk : GOk h w) (hc : SqL K H c (cs.map V.int)) (hq : SqT K H q [.int r, .int a]) (ht : t < 4) :
    Ev (tCall (sp_side_ahead K) [] E ta) σ H (.bl (sideAhead h w cs r a t)) := fun H1 e Q k =>
  ha H1 e _ fun H2 e2 => ⟨g, c, q, h, w, cs, r, a, t, rfl, ex_t (e.trans e2) hs, gk, ex_l (e.trans e2) hc, ex_t (e.trans e2) hq, ht, fun H3 e3 => k H3 (e2.trans e3)⟩
def t_side_ahead (K : PySem.W.Frag) : TS := (tSeq (tAsg (tVar 0) (gTup K 2 (gCons (gName 4) (gCons (gName 5) gNil))))
      (tSeq (tAsg (tVar 2) (gTup K 2 (gCons (gName 6) (gCons (gName 7) gNil))))
      (tSeq (tAsg (tTup (tCons (tTup (tCons (tTup (tCons (tOp oSub (tVar 6) (tC (.int 1))) (tCons (tVar 7) tNil))) (tCons (tTup (tCons (tVar 6) (tCons (tVar 7) tNil))) tNil))) (tCons (tTup (tCons (tTup (tCons (tVar 6) (tCons (tVar 7) tNil))) (tCons (tTup (tCons (tVar 6) (tCons (tOp oSub (tVar 7) (tC (.int 1))) tNil))) tNil))) (tCons (tTup (tCons (tTup (tCons (tVar 6) (tCons (tOp oSub (tVar 7) (tC (.int 1))) tNil))) (tCons (tTup (tCons (tOp oSub (tVar 6) (tC (.int 1))) (tCons (tOp oSub (tVar 7) (tC (.int 1))) tNil))) tNil))) (tCons (tTup (tCons (tTup (tCons (tOp oSub (tVar 6) (tC (.int 1))) (tCons (tOp oSub (tVar 7) (tC (.int 1))) tNil))) (tCons (tTup (tCons (tOp oSub (tVar 6) (tC (.int 1))) (tCons (tVar 7) tNil))) tNil))) tNil))))) (gName 8))
      (tSeq (tAsg (tLst tNil) (gName 9))
      (tSeq (tFor (iTup K (tOp (rIxT K) (tVar 8) (tVar 3))) (gTup K 2 (gCons (gName 10) (gCons (gName 11) gNil))) (tDrop (tBM K "list" rAppend (tVar 9) (tCons (tAndV (tChain oLe oLt (tC (.int 0)) (tVar 10) (tVar 4)) (tAndV (tChain oLe oLt (tC (.int 0)) (tVar 11) (tVar 5)) (tOp (rIn K false) (tOp oAdd (tOp oMul (tVar 10) (tVar 5)) (tVar 11)) (tVar 1)))) tNil))))
      (tRet (tOp rNe (tOp (rIxL K) (tVar 9) (tC (.int 0))) (tOp (rIxL K) (tVar 9) (tC (.int 1))))))))))
def dQ (r a : Int) (t : Nat) : PyData := .tuple [dP (pairOf r a t).1.1 (pairOf r a t).1.2, dP (pairOf r a t).2.1 (pairOf r a t).2.2]
theorem pure_side_ahead {K : PySem.W.Frag} {vs : List V} {H : Hp} {Q : VK} {E : XK} {D : Ends} (hD : D.rt = Q) (h : sp_side_ahead K vs H Q E) : t_side_ahead K D (start ["grid", "cells", "point", "turn", "high", "wide", "row", "at", "pairs", "found", "here", "there"] vs) H := by
  obtain ⟨g, c, q, h, w, cs, r, a, t, rfl, hs, gk, hc, hq, ht, k⟩ := h
  subst hD
  change t_side_ahead K D [some (.ref g), some (.ref c), some (.ref q), some (.int (t : Int)), none, none, none, none, none, none, none, none] H
  have gb := gk
  obtain ⟨g1, g2, g3, g4⟩ := gb
  refine q_unp (i := 4) (j := 5) (est_of (ev_var rfl) hs) fun H1 e1 => ?_
  refine q_unp (i := 6) (j := 7) (est_of (ev_var rfl) (ex_t e1 hq)) fun H2 e2 => ?_
  refine q_asgD (K := K) (i := 8) (d := .tuple [dQ r a 0, dQ r a 1, dQ r a 2, dQ r a 3]) (ed_tup (ead_cons (d := dQ r a 0) (ed_tup (ead_cons (d := dP (r - 1) a) (ed_pair (by walk_at "ev") (by walk_at "ev")) (ead_cons (d := dP r a) (ed_pair (by walk_at "ev") (by walk_at "ev")) ead_nil)) (by simp))
    (ead_cons (d := dQ r a 1) (ed_tup (ead_cons (d := dP r a) (ed_pair (by walk_at "ev") (by walk_at "ev")) (ead_cons (d := dP r (a - 1)) (ed_pair (by walk_at "ev") (by walk_at "ev")) ead_nil)) (by simp))
    (ead_cons (d := dQ r a 2) (ed_tup (ead_cons (d := dP r (a - 1)) (ed_pair (by walk_at "ev") (by walk_at "ev")) (ead_cons (d := dP (r - 1) (a - 1)) (ed_pair (by walk_at "ev") (by walk_at "ev")) ead_nil)) (by simp))
    (ead_cons (d := dQ r a 3) (ed_tup (ead_cons (d := dP (r - 1) (a - 1)) (ed_pair (by walk_at "ev") (by walk_at "ev")) (ead_cons (d := dP (r - 1) a) (ed_pair (by walk_at "ev") (by walk_at "ev")) ead_nil)) (by simp)) ead_nil)))) (by simp)) fun v H3 e3 hv => ?_
  obtain ⟨p, x0, x1, x2, x3, rfl, sp, d0, d1, d2, d3⟩ := dp_four hv
  obtain ⟨x, hx, dx⟩ := pick4 (dQ r a) d0 d1 d2 d3 ht
  obtain ⟨y, u, v, rfl, sy, du, dv⟩ := dp_two dx
  obtain ⟨pu, rfl, su⟩ := dp_pair du
  obtain ⟨pv, rfl, sv⟩ := dp_pair dv
  refine q_asgL (i := 9) (xs := []) (el_lst ea_nil (by simp)) fun f H4 hf e4 h4 => ?_
  have hs4 := ex_t ((e1.trans e2).trans (e3.trans e4)) hs
  have hc4 := ex_l ((e1.trans e2).trans (e3.trans e4)) hc
  have tgt : Ev (tOp (rIxT K) (tVar 8) (tVar 3)) [some (.ref g), some (.ref c), some (.ref q), some (.int (t : Int)), some (.int (h : Int)), some (.int (w : Int)), some (.int r), some (.int a), some (.ref p), some (.ref f), none, none] H4 (.ref y) := ev_ixT (est_of (ev_var rfl) (ex_t e4 sp)) (ev_var rfl) hx
  have isS : sideAhead h w cs r a t = (inCell h w cs (pairOf r a t).1.1 (pairOf r a t).1.2 != inCell h w cs (pairOf r a t).2.1 (pairOf r a t).2.2) := rfl
  generalize (pairOf r a t).1.1 = r1 at *
  generalize (pairOf r a t).1.2 = a1 at *
  generalize (pairOf r a t).2.1 = r2 at *
  generalize (pairOf r a t).2.2 = a2 at *
  refine q_forT (K := K) tgt (ex_t e4 sy) (fun n σ' H' => ∃ y10 y11, σ' = [some (.ref g), some (.ref c), some (.ref q), some (.int (t : Int)), some (.int (h : Int)), some (.int (w : Int)), some (.int r), some (.int a), some (.ref p), some (.ref f), y10, y11] ∧ (∀ b o, b ≠ f → H4 b = some o → H' b = some o) ∧ H' f = some (.lst (([inCell h w cs r1 a1, inCell h w cs r2 a2].take n).map V.bl)))
    (fun H5 e5 => ⟨_, _, rfl, fun b o _ hb => e5 _ _ hb, e5 _ _ h4⟩) (fun n σ' H' _ hP => ?_) (fun n x σ' H' hx hP => ?_) (fun σ' H' hP => ?_)
  · obtain ⟨_, _, _, hb, _⟩ := hP
    have ex3 : Ex H3 H' := fun b o ho => hb b o (ne_of_none ho hf) (e4 _ _ ho)
    exact ex_t ex3 sy
  · obtain ⟨y10, y11, rfl, hb, hl⟩ := hP
    have ex3 : Ex H3 H' := fun b o ho => hb b o (ne_of_none ho hf) (e4 _ _ ho)
    have hcX : SqL K H' c (cs.map V.int) := ex_l (((e1.trans e2).trans e3).trans ex3) hc
    have val' : ∀ (r1 a1 : Int), Ev (tAndV (tChain oLe oLt (tC (.int 0)) (tVar 10) (tVar 4)) (tAndV (tChain oLe oLt (tC (.int 0)) (tVar 11) (tVar 5)) (tOp (rIn K false) (tOp oAdd (tOp oMul (tVar 10) (tVar 5)) (tVar 11)) (tVar 1))))
        [some (.ref g), some (.ref c), some (.ref q), some (.int (t : Int)), some (.int (h : Int)), some (.int (w : Int)), some (.int r), some (.int a), some (.ref p), some (.ref f), some (.int r1), some (.int a1)] H' (.bl (inCell h w cs r1 a1)) := fun r1 a1 =>
      ev_andV (ev_chain (x := .int 0) (y := .int r1) (z := .int (h : Int)) ev_c (ev_var rfl) rv_I0 (fun _ => ev_var rfl) (fun _ => rv_I0)) (fun _ => ev_andV (ev_chain (x := .int 0) (y := .int a1) (z := .int (w : Int)) ev_c (ev_var rfl) rv_I0 (fun _ => ev_var rfl) (fun _ => rv_I0))
        (fun _ => ev_isIn (ev_op (x := .int (r1 * (w : Int))) (y := .int a1) (ev_op (x := .int r1) (y := .int (w : Int)) (ev_var rfl) (ev_var rfl) (rv_I (.inr ⟨by omega, by omega⟩))) (ev_var rfl) rv_I0) (es_of (ev_var rfl) hcX)))
    have hn : n = 0 ∨ n = 1 := by
      have := (List.getElem?_eq_some_iff.mp hx).1
      simp only [List.length_cons, List.length_nil] at this
      omega
    rcases hn with rfl | rfl
    · have : x = .ref pu := (Option.some.inj hx).symm
      subst this
      refine ⟨pu, _, rfl, ex_t ex3 su, rfl, _, _, rfl, _, _, rfl, rfl, ?_⟩
      refine s_app (K := K) (l := f) hl (ev_var rfl) (val' r1 a1) (by simp) fun H6 e6 => ⟨_, _, rfl, fun b o nb hb' => ?_, ?_⟩
      · rw [upd_ne nb]
        exact e6 _ _ (hb b o nb hb')
      · rw [upd_same]
        rfl
    · have : x = .ref pv := (Option.some.inj hx).symm
      subst this
      refine ⟨pv, _, rfl, ex_t ex3 sv, rfl, _, _, rfl, _, _, rfl, rfl, ?_⟩
      refine s_app (K := K) (l := f) hl (ev_var rfl) (val' r2 a2) (by simp) fun H6 e6 => ⟨_, _, rfl, fun b o nb hb' => ?_, ?_⟩
      · rw [upd_ne nb]
        exact e6 _ _ (hb b o nb hb')
      · rw [upd_same]
        rfl
  · obtain ⟨y10, y11, rfl, hb, hl⟩ := hP
    have ex3 : Ex H3 H' := fun b o ho => hb b o (ne_of_none ho hf) (e4 _ _ ho)
    have hl' : H' f = some (.lst [.bl (inCell h w cs r1 a1), .bl (inCell h w cs r2 a2)]) := hl
    refine s_ret (v := .bl (sideAhead h w cs r a t)) (ev_is (ev_op (x := .bl (inCell h w cs r1 a1)) (y := .bl (inCell h w cs r2 a2)) (ev_ixS (es_of (ev_var rfl) (sq_of hl')) ev_c (atI_nat (j := 0) rfl)) (ev_ixS (es_of (ev_var rfl) (sq_of hl')) ev_c (atI_nat (j := 1) rfl)) (rv_ne rfl)) ?_) fun H5 e5 => k H5 ((((e1.trans e2).trans e3).trans ex3).trans e5)
    rw [isS]
    cases inCell h w cs r1 a1 <;> cases inCell h w cs r2 a2 <;> rfl

/-! ### walk -/
def NewPts (K : PySem.W.Frag) (pts : List (Int × Int)) (H1 : Hp) (v : V) (H2 : Hp) : Prop := ∃ p qs, v = .ref p ∧ H1 p = none ∧ H2 p = some (.lst (qs.map V.ref)) ∧ Prs K H2 qs pts
theorem NewPts.back {K : PySem.W.Frag} {pts : List (Int × Int)} {H0 H1 H2 : Hp} {v : V} (e : Ex H0 H1) (h : NewPts K pts H1 v H2) : NewPts K pts H0 v H2 := by
  obtain ⟨p, qs, rfl, hp, h2, h3⟩ := h
  exact ⟨p, qs, rfl, fresh_back e hp, h2, h3⟩
def OkW (K : PySem.W.Frag) (C : Ad) (H : Hp) (Q : VK) (E : XK) : Addr → Nat → Nat → List Int → Prop := fun _ h w cs =>
  (isRing h w cs = false ∧ RetE C.cNoRing H E) ∨ (isRing h w cs = true ∧ ∃ pts, walkOf h w cs = some pts ∧ RetP (NewPts K pts) H Q)
def sp_walk (K : PySem.W.Frag) (C : Ad) : Sp := fun vs H Q E => ∃ v u, vs = [v, u] ∧ DoorGC K C v u H Q E (OkW K C H Q E)
theorem ep_walk {K : PySem.W.Frag} {C : Ad} {σ : L2.St} {H : Hp} {ta tb : TE} {E : XK} {h w : Nat} {cs : List Int} {pts : List (Int × Int)} (ha : EvST K ta σ H [.int (h : Int), .int (w : Int)]) (gk : GOk h w) (hc : EvS K tb σ H (cs.map V.int)) (ck : COk h w cs) (hi : isRing h w cs = true) (hp : walkOf h w cs = some pts) :
    EvP (tCall (sp_walk K C) [] E (tCons ta (tCons tb tNil))) σ H (NewPts K pts) := fun H1 e Q q =>
  ha H1 e _ fun g H2 e2 hg => hc H2 (e.trans e2) _ fun c H3 e3 hc3 => ⟨_, _, rfl, .inr ⟨g, h, w, rfl, ex_t e3 hg, gk, .inr ⟨c, cs, rfl, hc3, ck, .inr ⟨hi, pts, hp, fun v H4 e4 z => q v H4 ((e2.trans e3).trans e4) (z.back (e2.trans e3))⟩⟩⟩⟩
def t_walk (K : PySem.W.Frag) (C : Ad) (E : XK) : TS := (tSeq (tDrop (tCall (sp_check_grid K C) [] E (tCons (tVar 0) tNil)))
      (tSeq (tDrop (tCall (sp_check_cells K C) [] E (tCons (tVar 0) (tCons (tVar 1) tNil))))
      (tSeq (tIfS (tNot (tB (tCall (sp_is_ring K) [] E0 (tCons (tVar 0) (tCons (tVar 1) tNil))))) (tRaise E (.ref C.cNoRing)) tNext)
      (tSeq (tAsg (tTup (tCons (tOp oDiv (tOp (rIxL K) (tVar 1) (tC (.int 0))) (tOp (rIxT K) (tVar 0) (tC (.int 1)))) (tCons (tOp oMod (tOp (rIxL K) (tVar 1) (tC (.int 0))) (tOp (rIxT K) (tVar 0) (tC (.int 1)))) tNil))) (gName 2))
      (tSeq (tAsg (tTup (tCons (tTup (tCons (tC (.int 0)) (tCons (tC (.int 1)) tNil))) (tCons (tTup (tCons (tC (.int 1)) (tCons (tC (.int 0)) tNil))) (tCons (tTup (tCons (tC (.int 0)) (tCons (tUn oNeg (tC (.int 1))) tNil))) (tCons (tTup (tCons (tUn oNeg (tC (.int 1))) (tCons (tC (.int 0)) tNil))) tNil))))) (gName 3))
      (tSeq (tPar 4 5 (tCons (tLst (tCons (tVar 2) tNil)) (tCons (tC (.int 0)) tNil)))
      (tSeq (tAsg (tTup (tCons (tOp (rIxT K) (tVar 2) (tC (.int 0))) (tCons (tOp oAdd (tOp (rIxT K) (tVar 2) (tC (.int 1))) (tC (.int 1))) tNil))) (gName 6))
      (tSeq (tWhile (tTest (tOp (rNeD K) (tVar 6) (tVar 2))) (tSeq (tDrop (tBM K "list" rAppend (tVar 4) (tCons (tVar 6) tNil)))
      (tSeq (tAsg (tOp oMod (tOp oAdd (tVar 5) (tC (.int 2))) (tC (.int 4))) (gName 7))
      (tSeq (tAsg (tOp (rIxL K) (tLc (iRng1 (tCons (tC (.int 4)) tNil)) (gName 8) (tAnd (tTest (tOp rNe (tVar 8) (tVar 7))) (tB (tCall (sp_side_ahead K) [] E0 (tCons (tVar 0) (tCons (tVar 1) (tCons (tVar 6) (tCons (tVar 8) tNil))))))) (tVar 8) [8]) (tC (.int 0))) (gName 5))
      (tAsg (tTup (tCons (tOp oAdd (tOp (rIxT K) (tVar 6) (tC (.int 0))) (tOp (rIxT K) (tOp (rIxT K) (tVar 3) (tVar 5)) (tC (.int 0)))) (tCons (tOp oAdd (tOp (rIxT K) (tVar 6) (tC (.int 1))) (tOp (rIxT K) (tOp (rIxT K) (tVar 3) (tVar 5)) (tC (.int 1)))) tNil))) (gName 6))))))
      (tRet (tVar 4))))))))))
def dS (t : Nat) : PyData := dP (stepOf t).1 (stepOf t).2
theorem eqv_dP (a b c d : Int) : PyData.eqv (dP a b) (dP c d) = decide (a = c ∧ b = d) := by
  unfold dP
  rw [Bool.eq_iff_iff]
  simp [PyData.eqv, PyData.eqvAll]
theorem shaped_dP (a b : Int) : SeqAt.shaped (dP a b) = true := by
  have e1 : PyData.canLay0 (dP a b) = true := by
    unfold dP
    simp [PyData.canLay0, PyData.canLayAll0]
  have e2 : PyData.depth (dP a b) ≤ 64 := by
    unfold dP
    simp [PyData.depth, PyData.depthAll]
  unfold SeqAt.shaped
  rw [e1, decide_eq_true e2]
  rfl
theorem pure_walk {K : PySem.W.Frag} {C : Ad} {vs : List V} {H : Hp} {Q : VK} {E : XK} {D : Ends} (hD : D.rt = Q) (h : sp_walk K C vs H Q E) : t_walk K C E D (start ["grid", "cells", "first", "steps", "found", "turn", "here", "back", "way"] vs) H := by
  obtain ⟨v, u, rfl, hd⟩ := h
  subst hD
  change t_walk K C E D [some v, some u, none, none, none, none, none, none, none] H
  refine q_checks rfl rfl hd fun g h w c cs H1 hv hu e1 hs gk hc ck hok => ?_
  subst hv hu
  clear hd
  have cl := cok_len gk ck
  have gb := gk
  obtain ⟨g1, g2, g3, g4⟩ := gb
  have ir := ev_is_ring (K := K) (E := E0) (σ := [some (.ref g), some (.ref c), none, none, none, none, none, none, none]) (H := H1) (ta := tCons (tVar 0) (tCons (tVar 1) tNil)) (ea_cons (ev_var rfl) (ea_cons (ev_var rfl) ea_nil)) hs gk hc ck.1 (by omega)
  rcases hok with ⟨hi, q⟩ | ⟨hi, pts, hw, q⟩
  · rw [hi] at ir
    exact q_when (et_not (et_B ir)) (fun _ H2 e2 => q H2 (e1.trans e2)) (fun z => nomatch z)
  · rw [hi] at ir
    refine q_when (et_not (et_B ir)) (fun z => nomatch z) (fun _ H2 e2 => ?_)
    have hs2 := ex_t e2 hs
    have hc2 := ex_l e2 hc
    have it : Ev (tOp (rIxL K) (tVar 1) (tC (.int 0))) [some (.ref g), some (.ref c), none, none, none, none, none, none, none] H2 (.int (cs.headD 0)) := ev_ixS (es_of (ev_var rfl) hc2) ev_c (at_first ck.1)
    have wt : Ev (tOp (rIxT K) (tVar 0) (tC (.int 1))) [some (.ref g), some (.ref c), none, none, none, none, none, none, none] H2 (.int (w : Int)) := by walk_at "ev"
    unfold walkOf at hw
    generalize hfr : cs.headD 0 / (w : Int) = fr at *
    generalize hfc : cs.headD 0 % (w : Int) = fc at *
    refine q_asgU (i := 2) (xs := [.int fr, .int fc]) (eu_tup (ea_cons (by rw [← hfr]; exact ev_op it wt (rv_I ⟨by omega, by omega⟩)) (ea_cons (by rw [← hfc]; exact ev_op it wt (rv_I (by show (0 : Int) < _; omega))) ea_nil)) (by simp)) fun fp H3 hfp e3 h3 => ?_
    refine q_asgD (K := K) (i := 3) (d := .tuple [dS 0, dS 1, dS 2, dS 3]) (ed_tup (ead_cons (d := dS 0) (ed_pair (a := 0) (b := 1) ev_c ev_c) (ead_cons (d := dS 1) (ed_pair (a := 1) (b := 0) ev_c ev_c) (ead_cons (d := dS 2) (ed_pair (a := 0) (b := -1) ev_c (ev_un ev_c ru_neg)) (ead_cons (d := dS 3) (ed_pair (a := -1) (b := 0) (ev_un ev_c ru_neg) ev_c) ead_nil)))) (by simp)) fun v H4 e4 hv => ?_
    obtain ⟨sp, x0, x1, x2, x3, rfl, ss, d0, d1, d2, d3⟩ := dp_four hv
    have pk := fun {t : Nat} (ht : t < 4) => pick4 dS d0 d1 d2 d3 ht
    refine q_parL1 (i := 4) (j := 5) (xs := [.ref fp]) (y := .int 0) (el_lst (ea_cons (ev_var rfl) ea_nil) (by simp)) ev_c fun p H5 hp e5 h5 => ?_
    have h3' : ∀ {H'}, Ex H3 H' → SqT K H' fp [.int fr, .int fc] := fun e => st_of (e _ _ h3)
    have f0 : Ev (tOp (rIxT K) (tVar 2) (tC (.int 0))) [some (.ref g), some (.ref c), some (.ref fp), some (.ref sp), some (.ref p), some (.int 0), none, none, none] H5 (.int fr) := ev_ixT (est_of (ev_var rfl) (h3' (e4.trans e5))) ev_c (atI_nat (j := 0) rfl)
    have f1 : Ev (tOp (rIxT K) (tVar 2) (tC (.int 1))) [some (.ref g), some (.ref c), some (.ref fp), some (.ref sp), some (.ref p), some (.int 0), none, none, none] H5 (.int fc) := ev_ixT (est_of (ev_var rfl) (h3' (e4.trans e5))) ev_c (atI_nat (j := 1) rfl)
    refine q_asgU (i := 6) (xs := [.int fr, .int (fc + 1)]) (eu_tup (ea_cons f0 (ea_cons (ev_op f1 (ev_c (v := .int 1)) rv_I0) ea_nil)) (by simp)) fun hp6 H6 hhp e6 h6 => ?_
    have b4 : Ex H H4 := ((e1.trans e2).trans e3).trans e4
    refine q_while (fun m σ' H' => ∃ (f : List (Int × Int)) (t : Nat) (r a : Int) (hr : Addr) (qs : List Addr) (y7 : Option V), σ' = [some (.ref g), some (.ref c), some (.ref fp), some (.ref sp), some (.ref p), some (.int (t : Int)), some (.ref hr), y7, none] ∧ Ex H4 H' ∧ H' p = some (.lst (qs.map V.ref)) ∧ Prs K H' qs f ∧ SqT K H' hr [.int r, .int a] ∧ t < 4 ∧ f.length + m ≤ 201 ∧ walkGo h w cs fr fc m f t r a = some pts)
      200 ⟨[(fr, fc)], 0, fr, fc + 1, hp6, [fp], none, rfl, e5.trans e6, e6 _ _ h5, .cons (h3' ((e4.trans e5).trans e6)) .nil, st_of h6, by decide, by simp, hw⟩ fun m σ' H' hW => ?_
    obtain ⟨f, t, r, a, hr, qs, y7, rfl, e7, h7, hps, hhr, ht, hm, hg⟩ := hW
    have hs7 : SqT K H' g [.int (h : Int), .int (w : Int)] := ex_t ((e3.trans e4).trans e7) hs2
    have hc7 : SqL K H' c (cs.map V.int) := ex_l ((e3.trans e4).trans e7) hc2
    refine ⟨!decide (r = fr ∧ a = fc), et_is (et_test (ev_neD (ed_of (ev_var rfl) (pair_dp hhr)) (ed_of (ev_var rfl) (pair_dp (h3' (e4.trans e7)))) (shaped_dP _ _) (shaped_dP _ _))) (by rw [eqv_dP]), fun hb H8 e8 => ?_, fun hb H8 e8 => ?_⟩
    · have hb' : ¬ (r = fr ∧ a = fc) := by
        rw [Bool.not_eq_true', decide_eq_false_iff_not] at hb
        exact hb
      cases m with
      | zero => cases hg
      | succ m =>
        unfold walkGo at hg
        rw [if_neg hb'] at hg
        cases hwy : ways h w cs r a t with
        | nil => rw [hwy] at hg; cases hg
        | cons y ys =>
          rw [hwy] at hg
          dsimp only at hg
          have yl : y < 4 := ways_lt (by rw [hwy]; exact List.mem_cons_self)
          refine ⟨fun σ2 H2 => ∃ (f : List (Int × Int)) (t : Nat) (r a : Int) (hr : Addr) (qs : List Addr) (y7 : Option V), σ2 = [some (.ref g), some (.ref c), some (.ref fp), some (.ref sp), some (.ref p), some (.int (t : Int)), some (.ref hr), y7, none] ∧ Ex H4 H2 ∧ H2 p = some (.lst (qs.map V.ref)) ∧ Prs K H2 qs f ∧ SqT K H2 hr [.int r, .int a] ∧ t < 4 ∧ f.length + m ≤ 201 ∧ walkGo h w cs fr fc m f t r a = some pts, fun σ2 H2 z => ⟨m, by omega, z⟩, ?_⟩
          have ql := Paired.length hps
          have prm : ∀ {Ha Hb : Hp}, (∀ b o, b ≠ p → Ha b = some o → Hb b = some o) → Ha p = some (.lst (qs.map V.ref)) → ∀ {q : Addr} {u v : V}, SqT K Ha q [u, v] → SqT K Hb q [u, v] := by
            intro Ha Hb k hap q u v sq
            rcases sq with (z | ⟨o, z⟩) | z
            · exact .inl (.inl (k _ _ (ne_of z hap (by intro z; cases z)) z))
            · exact .inl (.inr ⟨o, k _ _ (ne_of z hap (by intro z; cases z)) z⟩)
            · exact .inr z
          refine q_app (K := K) (l := p) (v := .ref hr) (e8 _ _ h7) (ev_var rfl) (ev_var rfl) (by rw [List.length_map, ql]; omega) fun H9 e9 => ?_
          have kp : ∀ b o, b ≠ p → H' b = some o → (upd H9 p (.lst (qs.map V.ref ++ [.ref hr]))) b = some o := fun b o nb hb => by rw [upd_ne nb]; exact e9 _ _ (e8 _ _ hb)
          have ex9 : Ex H4 (upd H9 p (.lst (qs.map V.ref ++ [.ref hr]))) := Ex.mut ((e7.trans e8).trans e9) hp
          have p9 : (upd H9 p (.lst (qs.map V.ref ++ [.ref hr]))) p = some (.lst (qs.map V.ref ++ [.ref hr])) := upd_same
          have hhr9 := prm kp h7 hhr
          have hps9 : Prs K (upd H9 p (.lst (qs.map V.ref ++ [.ref hr]))) (qs ++ [hr]) (f ++ [(r, a)]) := paired_snoc (Paired.mapP hps fun q pr z => prm kp h7 z) hhr9
          generalize upd H9 p (.lst (qs.map V.ref ++ [.ref hr])) = Hn at *
          have hsn : SqT K Hn g [.int (h : Int), .int (w : Int)] := ex_t ((e3.trans e4).trans ex9) hs2
          have hcn : SqL K Hn c (cs.map V.int) := ex_l ((e3.trans e4).trans ex9) hc2
          refine q_asg (i := 7) (v := .int (((t + 2) % 4 : Nat) : Int)) (ev_is (ev_op (x := .int ((t : Int) + 2)) (y := .int 4) (ev_op (x := .int (t : Int)) (y := .int 2) (ev_var rfl) ev_c rv_I0) ev_c (rv_I (by show (0 : Int) < 4; decide))) (by show V.int (((t : Int) + 2) % 4) = _; congr 1)) fun H10 e10 => ?_
          have l := el_lcR (σ := [some (.ref g), some (.ref c), some (.ref fp), some (.ref sp), some (.ref p), some (.int (t : Int)), some (.ref hr), some (.int (((t + 2) % 4 : Nat) : Int)), none]) (H := H10) (t := tAnd (tTest (tOp rNe (tVar 8) (tVar 7))) (tB (tCall (sp_side_ahead K) [] E0 (tCons (tVar 0) (tCons (tVar 1) (tCons (tVar 6) (tCons (tVar 8) tNil))))))) (te := tVar 8) (j := 8) (vs := [8]) (n := 4) (ta := tCons (tC (.int 4)) tNil)
            (fun y => !decide (y = (t + 2) % 4) && sideAhead h w cs r a y) (fun y => V.int (y : Int)) (ea_cons ev_c ea_nil) (by decide) (fun _ => rfl)
            (fun i H11 e11 hi => et_and (et_is (et_test (ev_op (x := .int (i : Int)) (y := .int (((t + 2) % 4 : Nat) : Int)) (ev_var rfl) (ev_var rfl) (rv_ne rfl))) (by rw [Bool.eq_iff_iff]; simp only [Bool.not_eq_true', decide_eq_false_iff_not, V.int.injEq]; omega)) (fun _ => et_B (ev_side_ahead (ea_cons (ev_var rfl) (ea_cons (ev_var rfl) (ea_cons (ev_var rfl) (ea_cons (ev_var rfl) ea_nil)))) (ex_t (e10.trans e11) hsn) gk (ex_l (e10.trans e11) hcn) (ex_t (e10.trans e11) hhr9) hi))) (fun i H11 e11 hi _ => ev_var rfl)
          have lw : (((List.range 4).filter fun (y : Nat) => !decide (y = (t + 2) % 4) && sideAhead h w cs r a y).map fun (y : Nat) => V.int (y : Int)) = (ways h w cs r a t).map fun (y : Nat) => V.int (y : Int) := rfl
          rw [lw, hwy] at l
          refine q_asg (i := 5) (v := .int (y : Int)) (ev_ixS (es_new l) ev_c (atI_nat (j := 0) rfl)) fun H11 e11 => ?_
          obtain ⟨xt, hxt, dxt⟩ := pk yl
          obtain ⟨pt, rfl, spt⟩ := dp_pair dxt
          have hh11 := ex_t (e10.trans e11) hhr9
          have e4n : Ex H4 H11 := ex9.trans (e10.trans e11)
          have sti : Ev (tOp (rIxT K) (tVar 3) (tVar 5)) [some (.ref g), some (.ref c), some (.ref fp), some (.ref sp), some (.ref p), some (.int (y : Int)), some (.ref hr), some (.int (((t + 2) % 4 : Nat) : Int)), none] H11 (.ref pt) := ev_ixT (est_of (ev_var rfl) (ex_t e4n ss)) (ev_var rfl) hxt
          refine s_asgU (i := 6) (xs := [.int (r + (stepOf y).1), .int (a + (stepOf y).2)]) (eu_tup (ea_cons (ev_op (ev_ixT (est_of (ev_var rfl) hh11) ev_c (atI_nat (j := 0) rfl)) (ev_ixT (est_of sti (ex_t e4n spt)) ev_c (atI_nat (j := 0) rfl)) rv_I0) (ea_cons (ev_op (ev_ixT (est_of (ev_var rfl) hh11) ev_c (atI_nat (j := 1) rfl)) (ev_ixT (est_of sti (ex_t e4n spt)) ev_c (atI_nat (j := 1) rfl)) rv_I0) ea_nil)) (by simp)) fun hr' H12 hhr' e12 h12 => ?_
          refine ⟨f ++ [(r, a)], y, _, _, hr', qs ++ [hr], _, rfl, e4n.trans e12, ?_, hps9.mono ((e10.trans e11).trans e12), st_of h12, yl, by rw [List.length_append]; simp; omega, hg⟩
          rw [e12 _ _ (e11 _ _ (e10 _ _ p9)), List.map_append]
          rfl
    · have hb' : r = fr ∧ a = fc := by simpa using hb
      have hpts : f = pts := by
        cases m with
        | zero => cases hg
        | succ m =>
          unfold walkGo at hg
          rw [if_pos hb'] at hg
          exact Option.some.inj hg
      subst hpts
      refine s_ret (ev_var rfl) fun H9 e9 => q _ H9 (b4.trans (e7.trans (e8.trans e9))) ⟨p, qs, rfl, fresh_back b4 hp, e9 _ _ (e8 _ _ h7), hps.mono (e8.trans e9)⟩

/-! ### the script, the law's promise -/
def ScriptOk (ns : List Int) : Prop := ns.length ≤ 63 ∧ ∀ z ∈ ns, Builtin.Int.intBits z ≤ 1048576
def sp_law (K : PySem.W.Frag) : Sp := fun vs H Q _ => ∃ a ns, vs = [.ref a] ∧ SqL K H a ((ns : List Int).map V.int) ∧ ScriptOk ns ∧ ∀ H', Q (.bl true) H'
theorem cutTo (xs : List V) (n : Nat) : cutV xs none (some (n : Int)) = xs.take n := by
  unfold cutV
  rw [HT.sIx_none, HT.sIx_nat, List.drop_zero, Nat.sub_zero]
  rcases Nat.le_total n xs.length with h | h
  · rw [Nat.min_eq_left h]
  · rw [Nat.min_eq_right h, List.take_of_length_le h, List.take_length]
/-- sum(script[:63]) -/
theorem ev_sum63 {K : PySem.W.Frag} {σ : L2.St} {H : Hp} {a : Addr} {ns : List Int} (h0 : σ[0]? = some (some (.ref a))) (hn : SqL K H a (ns.map V.int)) : Ev (tCB (rSum K) (tCons (tSl (rSlL K) (tVar 0) tNoPart (tPart (tC (.int 63)))) tNil)) σ H (.int (ns.take 63).sum) := by
  have sl := el_sl (K := K) (te := tVar 0) (σ := σ) (H := H) (hi := some 63) (ev_var (i := 0) h0) eo_none (eo_some ev_c) hn
  rw [show (some (63 : Int)) = some ((63 : Nat) : Int) from rfl, cutTo, ← List.map_take] at sl
  exact ev_sumS (es_new sl)

/-! ### data that avoids an address; rows copied; answers' classes -/
def del (H : Hp) (l : Addr) : Hp := fun a => if a = l then none else H a
theorem del_self {H : Hp} {l : Addr} : del H l l = none := if_pos rfl
theorem del_ne {H : Hp} {l a : Addr} (h : a ≠ l) : del H l a = H a := if_neg h
theorem del_ex (H : Hp) (l : Addr) : Ex (del H l) H := fun a o h => by
  by_cases e : a = l
  · rw [e, del_self] at h; cases h
  · rw [del_ne e] at h; exact h
theorem del_mono {H H' : Hp} (l : Addr) (e : Ex H H') : Ex (del H l) (del H' l) := fun a o h => by
  by_cases e1 : a = l
  · rw [e1, del_self] at h; cases h
  · rw [del_ne e1] at h ⊢; exact e _ _ h
theorem ex_del {H H' : Hp} {l : Addr} (hl : H l = none) (e : Ex H H') : Ex H (del H' l) := fun a o h => by
  rw [del_ne (ne_of_none h hl)]
  exact e _ _ h
theorem del_upd (H : Hp) (l : Addr) (o : HO) : del (upd H l o) l = del H l := by
  funext a
  by_cases e : a = l
  · rw [e, del_self, del_self]
  · rw [del_ne e, del_ne e, upd_ne e]
mutual
/-- every list in it is shorter than n -/
def shortD (n : Nat) : PyData → Bool
  | .list xs => decide (xs.length < n) && shortAll n xs
  | .tuple xs => shortAll n xs
  | _ => true
def shortAll (n : Nat) : List PyData → Bool
  | [] => true
  | x :: xs => shortD n x && shortAll n xs
end
mutual
theorem dp_del {K : PySem.W.Frag} {H : Hp} {l : Addr} {zs : List V} {n : Nat} (hl : H l = some (.lst zs)) (hz : n ≤ zs.length) : ∀ {v : V} {d : PyData}, Dp K H v d → shortD n d = true → Dp K (del H l) v d
  | _, _, .non, _ => .non
  | _, _, .bl b, _ => .bl b
  | _, _, .int i, _ => .int i
  | _, _, .str x, _ => .str x
  | _, _, @Dp.lst _ _ a xs ds h hs, hn => by
    rw [shortD, Bool.and_eq_true, decide_eq_true_eq] at hn
    have len := dpAll_len hs
    refine .lst ?_ (dpAll_del hl hz hs hn.2)
    rcases h with (h | ⟨o, h⟩) | h
    · have ne : a ≠ l := fun e => by
        rw [e, hl] at h
        have := HO.lst.inj (Option.some.inj h)
        rw [this] at hz
        omega
      exact .inl (.inl (by rw [del_ne ne]; exact h))
    · have ne : a ≠ l := fun e => by rw [e, hl] at h; cases h
      exact .inl (.inr ⟨o, by rw [del_ne ne]; exact h⟩)
    · exact .inr h
  | _, _, @Dp.tup _ _ a xs ds h hs, hn => by
    rw [shortD] at hn
    refine .tup ?_ (dpAll_del hl hz hs hn)
    rcases h with (h | ⟨o, h⟩) | h
    · have ne : a ≠ l := fun e => by rw [e, hl] at h; cases h
      exact .inl (.inl (by rw [del_ne ne]; exact h))
    · have ne : a ≠ l := fun e => by rw [e, hl] at h; cases h
      exact .inl (.inr ⟨o, by rw [del_ne ne]; exact h⟩)
    · exact .inr h
theorem dpAll_del {K : PySem.W.Frag} {H : Hp} {l : Addr} {zs : List V} {n : Nat} (hl : H l = some (.lst zs)) (hz : n ≤ zs.length) : ∀ {vs : List V} {ds : List PyData}, DpAll K H vs ds → shortAll n ds = true → DpAll K (del H l) vs ds
  | _, _, .nil, _ => .nil
  | _, _, .cons h hs, hn => by
    rw [shortAll, Bool.and_eq_true] at hn
    exact .cons (dp_del hl hz h hn.1) (dpAll_del hl hz hs hn.2)
end
theorem dpAll_append {K : PySem.W.Frag} {H : Hp} : ∀ {vs us : List V} {ds es : List PyData}, DpAll K H vs ds → DpAll K H us es → DpAll K H (vs ++ us) (ds ++ es)
  | [], _, [], _, .nil, h => h
  | _ :: _, _, _ :: _, _, .cons g gs, h => .cons g (dpAll_append gs h)
theorem dpAll_get {K : PySem.W.Frag} {H : Hp} : ∀ {vs : List V} {ds : List PyData} {i : Nat} {v : V}, DpAll K H vs ds → vs[i]? = some v → ∃ d, ds[i]? = some d ∧ Dp K H v d
  | _ :: _, _ :: _, 0, _, .cons h _, e => by
    have := Option.some.inj e
    subst this
    exact ⟨_, rfl, h⟩
  | _ :: _, _ :: _, i + 1, v, .cons _ hs, e => dpAll_get (i := i) (v := v) hs e
/-- rows from data -/
theorem ints_of_dp {K : PySem.W.Frag} {H : Hp} : ∀ {vs : List V} {ns : List Int}, DpAll K H vs (ns.map PyData.int) → vs = ns.map V.int
  | _, [], .nil => rfl
  | _, n :: ns, .cons h hs => by
    cases h
    rw [ints_of_dp hs]
    rfl
theorem row_of_dp {K : PySem.W.Frag} {H : Hp} {v : V} {ns : List Int} (h : Dp K H v (dI ns)) : ∃ r, v = .ref r ∧ SqL K H r (ns.map V.int) := by
  unfold dI at h
  cases h with
  | lst hs ha =>
    rw [ints_of_dp ha] at hs
    exact ⟨_, rfl, hs⟩
theorem rows_of_dpAll {K : PySem.W.Frag} {H : Hp} : ∀ {vs : List V} {nss : List (List Int)}, DpAll K H vs (nss.map dI) → ∃ rs, vs = rs.map V.ref ∧ Paired (fun (r : Addr) (ns : List Int) => SqL K H r (ns.map V.int)) rs nss
  | _, [], .nil => ⟨[], rfl, .nil⟩
  | _, ns :: nss, .cons h hs => by
    obtain ⟨r, rfl, hr⟩ := row_of_dp h
    obtain ⟨rs, rfl, hp⟩ := rows_of_dpAll hs
    exact ⟨r :: rs, rfl, .cons hr hp⟩
theorem rows_of_dp {K : PySem.W.Frag} {H : Hp} {v : V} {nss : List (List Int)} (h : Dp K H v (dII nss)) : ∃ a, v = .ref a ∧ RowsAt K H a nss := by
  unfold dII at h
  cases h with
  | lst hs ha =>
    obtain ⟨rs, rfl, hp⟩ := rows_of_dpAll ha
    exact ⟨_, rfl, rs, hs, hp⟩
section
variable {K : PySem.W.Frag} {σ : L2.St} {H H' : Hp} {ta tb te tl : TE} {tr : TA} {t : TT} {D : Ends} {tu tz : TS} {d : PyData} {ds es : List PyData}
/-- [list(row) for row in rows] -/
theorem ep_copyRows {j : Nat} {vs : List Nat} {a : Addr} {nss : List (List Int)} (h : Ev tl σ H (.ref a)) (hr : RowsAt K H a nss) (hz : nss.length ≤ 40000) (hw : ∀ x, wipe ((wipe σ vs).set j (some x)) vs = wipe σ vs) (hj : ∀ x : V, ((wipe σ vs).set j (some x))[j]? = some (some x)) :
    EvP (tLc (iList K tl) (gName j) tYes (tCB (rListS K) (tCons (tVar j) tNil)) vs) σ H (fun H1 v H2 => NewLL H1 v H2 (ints2 nss)) := fun H0 e Q q => h H0 e _ fun H1 e1 => by
  obtain ⟨rs, h1, h2⟩ := hr.mono (e.trans e1)
  have ln : (rs.map V.ref).length = nss.length := by rw [List.length_map]; exact Paired.length h2
  refine ⟨a, rfl, ⟨_, h1⟩, fun Dl hD => lc_list (xs := rs.map V.ref) (fun n H' => H1 Dl = none ∧ Ex H1 H' ∧ ∃ bs : List (Addr × List Int), H' Dl = some (.lst (bs.map toV)) ∧ bs.map (·.2) = nss.take n ∧ ∀ b ∈ bs, (H1 b.1 = none ∧ b.1 ≠ Dl) ∧ H' b.1 = some (.lst (b.2.map V.int))) ⟨hD, Ex.new hD, [], upd_same, rfl, fun b hb => nomatch hb⟩ (fun i H' _ p => ex_l p.2.1 h1) (fun i x H' hi p => ?_) (fun H' p => ?_)⟩
  · rw [List.getElem?_map] at hi
    obtain ⟨r, hri, rfl⟩ := Option.map_eq_some_iff.mp hi
    obtain ⟨ns, hns, hs⟩ := paired_get h2 hri
    obtain ⟨p1, p2, bs, p3, p4, p5⟩ := p
    have bl : bs.length ≤ nss.length := by
      have := congrArg List.length p4
      rw [List.length_map, List.length_take] at this
      omega
    refine ⟨hw _, ?_⟩
    show tCB (rListS K) (tCons (tVar j) tNil) _ H' _
    refine el_listS (K := K) (es_of (ev_var (hj _)) (ex_l p2 hs)) H' (Ex.refl H') _ fun q' H3 hq e3 h3 => ?_
    have ne : q' ≠ Dl := (ne_of_none p3 hq).symm
    refine ⟨_, e3 _ _ p3, sz_lt (by rw [List.length_map]; omega), p1, Ex.mut (p2.trans e3) p1, bs ++ [(q', ns)], ?_, ?_, fun b hb => ?_⟩
    · rw [upd_same, List.map_append]; rfl
    · rw [List.map_append, p4, take_snoc hns]; rfl
    · rcases List.mem_append.mp hb with hb | hb
      · have z := p5 b hb
        refine ⟨z.1, ?_⟩
        rw [upd_ne z.1.2]
        exact e3 _ _ z.2
      · have : b = (q', ns) := by simpa using hb
        subst this
        exact ⟨⟨fresh_back p2 hq, ne⟩, by rw [upd_ne ne]; exact h3⟩
  · rw [ln, List.take_length] at p
    obtain ⟨p1, p2, bs, p3, rfl, p5⟩ := p
    exact q _ H' (e1.trans p2) (NewLL.of (fresh_back e1 p1) p3 fun b hb => ⟨fresh_back e1 (p5 b hb).1.1, (p5 b hb).2⟩)
/-- x = [data, ..] -/
theorem q_asgLD {i : Nat} (h : EvAD K tr σ H ds) (hl : ds.length ≤ 1000) (k : ∀ p vs H1, H p = none → Ex H H1 → H1 p = some (.lst vs) → DpAll K (del H1 p) vs ds → tz D (σ.set i (some (.ref p))) H1) : tSeq (tAsg (tLst tr) (gName i)) tz D σ H :=
  h H (Ex.refl H) _ fun vs H1 e hs => ⟨sz_of (by rw [dpAll_len hs]; omega), fun p hp => k p vs _ (fresh_back e hp) (e.trans (Ex.new hp)) upd_same (by rw [del_upd]; exact DpAll.mono (ex_del hp (Ex.refl H1)) hs)⟩
/-- x = y + [data, ..] -/
theorem s_catLD {i : Nat} {f : Addr} {vs : List V} (hf : H f = some (.lst vs)) (hd : DpAll K (del H f) vs ds) (ha : Ev ta σ H (.ref f)) (h : EvAD K tr σ H es) (hl : ds.length + es.length ≤ 1000) (k : ∀ p us H1, H p = none → Ex H H1 → H1 p = some (.lst us) → DpAll K (del H1 p) us (ds ++ es) → D.nx (σ.set i (some (.ref p))) H1) :
    tAsg (tOp rCat ta (tLst tr)) (gName i) D σ H :=
  ha H (Ex.refl H) _ fun H1 e1 => h H1 e1 _ fun us H2 e2 hs => ⟨sz_of (by rw [dpAll_len hs]; omega), fun b hb => ⟨f, b, vs, us, rfl, rfl, Ex.new hb _ _ (e2 _ _ (e1 _ _ hf)), upd_same, sz_of (by rw [dpAll_len hs, dpAll_len hd]; omega), fun p hp => by
    have e3 : Ex H2 (upd H2 b (.lst us)) := Ex.new hb
    have e13 := (e1.trans e2).trans e3
    refine k p _ _ (fresh_back e13 hp) (e13.trans (Ex.new hp)) upd_same ?_
    rw [del_upd]
    have e4 := ex_del hp (Ex.refl (upd H2 b (.lst us)))
    exact DpAll.mono e4 (dpAll_append (DpAll.mono ((del_ex H f).trans e13) hd) (DpAll.mono e3 hs))⟩⟩
theorem q_catLD {i : Nat} {f : Addr} {vs : List V} (hf : H f = some (.lst vs)) (hd : DpAll K (del H f) vs ds) (ha : Ev ta σ H (.ref f)) (h : EvAD K tr σ H es) (hl : ds.length + es.length ≤ 1000) (k : ∀ p us H1, H p = none → Ex H H1 → H1 p = some (.lst us) → DpAll K (del H1 p) us (ds ++ es) → tz D (σ.set i (some (.ref p))) H1) :
    tSeq (tAsg (tOp rCat ta (tLst tr)) (gName i)) tz D σ H := s_catLD (D := { D with nx := tz D }) hf hd ha h hl k
/-- y + [data, ..] as data -/
theorem ed_cat {f : Addr} {vs : List V} (hf : H f = some (.lst vs)) (hd : DpAll K (del H f) vs ds) (ha : Ev ta σ H (.ref f)) (h : EvAD K tr σ H es) (hl : ds.length + es.length ≤ 1000) : EvD K (tOp rCat ta (tLst tr)) σ H (.list (ds ++ es)) := fun H0 e0 Q q =>
  ha H0 e0 _ fun H1 e1 => h H1 (e0.trans e1) _ fun us H2 e2 hs => ⟨sz_of (by rw [dpAll_len hs]; omega), fun b hb => ⟨f, b, vs, us, rfl, rfl, Ex.new hb _ _ (e2 _ _ (e1 _ _ (e0 _ _ hf))), upd_same, sz_of (by rw [dpAll_len hs, dpAll_len hd]; omega), fun p hp => by
    have e3 : Ex H2 (upd H2 b (.lst us)) := Ex.new hb
    refine q _ _ (((e1.trans e2).trans e3).trans (Ex.new hp)) (.lst (sq_of upd_same) ?_)
    exact DpAll.mono (Ex.new hp) (dpAll_append (DpAll.mono ((del_ex H f).trans (((e0.trans e1).trans e2).trans e3)) hd) (DpAll.mono e3 hs))⟩⟩
/-- xs.append(e), e any result -/
theorem s_appP {l : Addr} {xs : List V} {R : Hp → V → Hp → Prop} (hl : H l = some (.lst xs)) (ha : Ev ta σ H (.ref l)) (h : EvP te σ H R) (hR : ∀ {H0 H1 v H2}, Ex H0 H1 → R H1 v H2 → R H0 v H2) (hz : xs.length < 100000) (k : ∀ v H1, Ex H H1 → R H v H1 → D.nx σ (upd H1 l (.lst (xs ++ [v])))) :
    tDrop (tBM K "list" rAppend ta (tCons te tNil)) D σ H := ha H (Ex.refl H) _ fun H1 e1 =>
  ⟨Or.inl ⟨rfl, xs, sq_of (e1 l _ hl)⟩, h H1 e1 _ fun v H2 e2 z => ⟨l, xs, v, rfl, rfl, e2 l _ (e1 l _ hl), sz_lt hz, k v H2 (e1.trans e2) (hR e1 z)⟩⟩
theorem q_appP {l : Addr} {xs : List V} {R : Hp → V → Hp → Prop} (hl : H l = some (.lst xs)) (ha : Ev ta σ H (.ref l)) (h : EvP te σ H R) (hR : ∀ {H0 H1 v H2}, Ex H0 H1 → R H1 v H2 → R H0 v H2) (hz : xs.length < 100000) (k : ∀ v H1, Ex H H1 → R H v H1 → tz D σ (upd H1 l (.lst (xs ++ [v])))) :
    tSeq (tDrop (tBM K "list" rAppend ta (tCons te tNil))) tz D σ H := s_appP (D := { D with nx := tz D }) hl ha h hR hz k
/-- [e] * k -/
theorem el_rep {n : Nat} {xs : List V} (ha : EvL ta σ H xs) (hb : Ev tb σ H (.int (n : Int))) (hn : n ≤ 1000) (hl : xs.length ≤ 90) : EvL (tOp rRep ta tb) σ H (List.replicate n xs).flatten := fun H1 e Q q =>
  ha H1 e _ fun p H2 hp e2 h2 => hb H2 (e.trans e2) _ fun H3 e3 => ⟨p, (n : Int), xs, rfl, rfl, e3 _ _ h2, by omega, by omega, sz_of (by rw [Int.toNat_natCast]; exact Nat.le_trans (Nat.mul_le_mul hl hn) (by decide)), fun l hl => by
    rw [Int.toNat_natCast]
    exact q l _ (fresh_back (e2.trans e3) hl) ((e2.trans e3).trans (Ex.new hl)) upd_same⟩
end
/-! ### the classes of answers -/
structure Ci (K : PySem.W.Frag) (c : Addr) : Prop where
  cl : Cls K c
  ha : PySem.W.findIn K (.ref c) "__class__" = some (some (.builtin "object.__class__"))
  hn : PySem.W.specialIn K (.builtin "object.__class__") "__get__" = some (some (.builtin "getset_descriptor.__get__"))
  htk : PySem.W.takesIn K (.builtin "object.__class__") = some true
  hm : PySem.W.mroIn K c (.type "object") = some true
theorem Ci.ty {K : PySem.W.Frag} {H : Hp} {a c dx : Addr} {fs : List (Str × V)} (k : Ci K c) (h : H a = some (.ins c dx fs)) : TyX K H (.ref a) (.ref c) := .base (.ins h k.cl k.ha k.hn k.htk k.hm)
theorem ev_isiC {K : PySem.W.Frag} {σ : L2.St} {H : Hp} {ta : TE} {a c dx e : Addr} {fs : List (Str × V)} {b : Bool} (ha : Ev ta σ H (.ref a)) (h : H a = some (.ins c dx fs)) (k : Ci K c) (hk : PySem.W.kitOne K (.ref c) (.ref e) = some b) : Ev (tCB (rIsi K) (tCons ta (tCons (tC (.ref e)) tNil))) σ H (.bl b) :=
  ev_isi ha ev_c (.own e) (fun _ x => k.ty (x _ _ h)) hk
theorem ep_numbersS {K : PySem.W.Frag} {C : Ad} {σ : L2.St} {H : Hp} {ta tb : TE} {E : XK} {h w : Nat} {cs : List Int} (ha : EvST K ta σ H [.int (h : Int), .int (w : Int)]) (gk : GOk h w) (hc : EvS K tb σ H (cs.map V.int)) (ck : COk h w cs) :
    EvP (tCall (sp_numbers K C) [] E (tCons ta (tCons tb tNil))) σ H (fun H1 v H2 => NewLL H1 v H2 (ints2 (numbersOf h w cs))) := fun H1 e Q q =>
  ha H1 e _ fun g H2 e2 hg => hc H2 (e.trans e2) _ fun c H3 e3 hc3 => ⟨_, _, rfl, .inr ⟨g, h, w, rfl, ex_t e3 hg, gk, .inr ⟨c, cs, rfl, hc3, ck, fun v H4 e4 z => q v H4 ((e2.trans e3).trans e4) (z.back (e2.trans e3))⟩⟩⟩
theorem cok_by {h w : Nat} {cs : List Int} (d : (decide (cs ≠ []) && (cs.all fun x => decide (0 ≤ x ∧ x < (h : Int) * w)) && !falls cs) = true) : COk h w cs := by
  simp only [Bool.and_eq_true, decide_eq_true_eq, List.all_eq_true, Bool.not_eq_true'] at d
  exact ⟨d.1.1, fun x hx => d.1.2 x hx, (falls_rising cs).mp d.2⟩
def dPts (pts : List (Int × Int)) : PyData := .list (pts.map fun p => dP p.1 p.2)
theorem dpAll_prs {K : PySem.W.Frag} {H : Hp} : ∀ {qs : List Addr} {pts : List (Int × Int)}, Prs K H qs pts → DpAll K H (qs.map V.ref) (pts.map fun p => dP p.1 p.2)
  | [], [], .nil => .nil
  | _ :: _, _ :: _, .cons h hs => .cons (pair_dp h) (dpAll_prs hs)
theorem NewPts.dp {K : PySem.W.Frag} {pts : List (Int × Int)} {H1 H2 : Hp} {v : V} (h : NewPts K pts H1 v H2) : Dp K H2 v (dPts pts) := by
  obtain ⟨p, qs, rfl, hp, h2, h3⟩ := h
  exact .lst (sq_of h2) (dpAll_prs h3)
theorem walkGo_len {h w : Nat} {cs : List Int} {fr fc : Int} : ∀ (k : Nat) (f : List (Int × Int)) (t : Nat) (r c : Int) {pts : List (Int × Int)}, walkGo h w cs fr fc k f t r c = some pts → pts.length ≤ f.length + k
  | 0, _, _, _, _, _, h => nomatch h
  | k + 1, f, t, r, c, pts, hg => by
    unfold walkGo at hg
    split at hg
    · have := Option.some.inj hg
      rw [← this]
      omega
    · cases hw : ways h w cs r c t with
      | nil => rw [hw] at hg; cases hg
      | cons y ys =>
        rw [hw] at hg
        have := walkGo_len k _ _ _ _ hg
        rw [List.length_append] at this
        simp at this
        omega
theorem walkOf_len {h w : Nat} {cs : List Int} {pts : List (Int × Int)} (hw : walkOf h w cs = some pts) : pts.length ≤ 201 := walkGo_len 200 _ _ _ _ hw
theorem sort_eq {l s : List (List Int)} (hp : l.Perm s) (hs : s.Pairwise (· ≤ ·)) : (l.mergeSort fun p q => decide (p ≤ q)) = s := by
  have p1 : (l.mergeSort fun p q => decide (p ≤ q)).Perm s := (List.mergeSort_perm l _).trans hp
  have s1 : (l.mergeSort fun p q => decide (p ≤ q)).Pairwise (fun a b => decide (a ≤ b) = true) := List.pairwise_mergeSort (fun a b c h1 h2 => by
    simp only [decide_eq_true_eq] at h1 h2 ⊢
    exact List.le_trans h1 h2) (fun a b => by
    simp only [Bool.or_eq_true, decide_eq_true_eq]
    exact List.le_total a b) l
  exact p1.eq_of_pairwise (fun a b _ _ h1 h2 => List.le_antisymm h1 h2) (s1.imp fun h => of_decide_eq_true h) hs

/-! ### things that are refused (k07) -/
section
variable {K : PySem.W.Frag} {σ : L2.St} {H H' : Hp} {ta tb te tl : TE} {tr : TA} {P P' : Hp → V → Prop}
def Mono (P : Hp → V → Prop) : Prop := ∀ H H' v, Ex H H' → P H v → P H' v
/-- arguments, each with P -/
def EvAX (ta : TA) (σ : L2.St) (H : Hp) (P : Hp → V → Prop) : Prop := ∀ H1, Ex H H1 → ∀ Q : List V → Hp → Prop, (∀ vs H2, Ex H1 H2 → vs.length ≤ 100 → (∀ v ∈ vs, P H2 v) → Q vs H2) → ta σ H1 Q
def EvAXn (ta : TA) (σ : L2.St) (H : Hp) (P : Hp → V → Prop) (n : Nat) : Prop := ∀ H1, Ex H H1 → ∀ Q : List V → Hp → Prop, (∀ vs H2, Ex H1 H2 → vs.length = n → (∀ v ∈ vs, P H2 v) → Q vs H2) → ta σ H1 Q
theorem eax_nil : EvAXn tNil σ H P 0 := fun H1 _ Q q => q [] H1 (Ex.refl H1) rfl fun v hv => nomatch hv
theorem eax_cons {n : Nat} (m : Mono P) (h : EvP te σ H (fun _ v H2 => P H2 v)) (hr : EvAXn tr σ H P n) : EvAXn (tCons te tr) σ H P (n + 1) := fun H1 e Q q =>
  h H1 e _ fun v H2 e2 hv => hr H2 (e.trans e2) _ fun vs H3 e3 hl hvs => q (v :: vs) H3 (e2.trans e3) (by rw [List.length_cons, hl]) fun x hx => by
    rcases List.mem_cons.mp hx with rfl | hx
    · exact m _ _ _ e3 hv
    · exact hvs x hx
/-- a list whose items all have P -/
def InAll (P : Hp → V → Prop) (n : Nat) (H : Hp) (v : V) : Prop := ∃ p xs, v = .ref p ∧ H p = some (.lst xs) ∧ xs.length = n ∧ ∀ x ∈ xs, P H x
theorem InAll.mono {n : Nat} (m : Mono P) : Mono (InAll P n) := fun H H' v e h => by
  obtain ⟨p, xs, rfl, h1, h2, h3⟩ := h
  exact ⟨p, xs, rfl, e _ _ h1, h2, fun x hx => m _ _ _ e (h3 x hx)⟩
theorem ep_lstAll {n : Nat} (m : Mono P) (h : EvAXn tr σ H P n) (hn : n ≤ 1000) : EvP (tLst tr) σ H (fun _ v H2 => InAll P n H2 v) := fun H1 e Q q =>
  h H1 e _ fun vs H2 e2 hl hv => ⟨sz_of (by omega), fun p hp => q _ _ (e2.trans (Ex.new hp)) ⟨p, vs, rfl, upd_same, hl, fun x hx => m _ _ _ (Ex.new hp) (hv x hx)⟩⟩
theorem ep_catAll {n k : Nat} (m : Mono P) (ha : EvP ta σ H (fun _ v H2 => InAll P n H2 v)) (hb : EvP tb σ H (fun _ v H2 => InAll P k H2 v)) (hn : n + k ≤ 1000) : EvP (tOp rCat ta tb) σ H (fun _ v H2 => InAll P (n + k) H2 v) := fun H1 e Q q =>
  ha H1 e _ fun u H2 e2 hu => hb H2 (e.trans e2) _ fun v H3 e3 hv => by
    obtain ⟨p, xs, rfl, p1, p2, p3⟩ := hu
    obtain ⟨r, ys, rfl, r1, r2, r3⟩ := hv
    refine ⟨p, r, xs, ys, rfl, rfl, e3 _ _ p1, r1, sz_of (by omega), fun s hs => q _ _ ((e2.trans e3).trans (Ex.new hs)) ⟨s, xs ++ ys, rfl, upd_same, by rw [List.length_append, p2, r2], fun x hx => ?_⟩⟩
    rcases List.mem_append.mp hx with hx | hx
    · exact m _ _ _ (e3.trans (Ex.new hs)) (p3 x hx)
    · exact m _ _ _ (Ex.new hs) (r3 x hx)
theorem ep_pure {v : V} (h : Ev te σ H v) (hP : ∀ H2, P H2 v) : EvP te σ H (fun _ v H2 => P H2 v) := fun H1 e Q q => h H1 e _ fun H2 e2 => q _ H2 e2 (hP H2)
theorem ep_tupB {xs : List V} (h : EvU te σ H xs) (hP : ∀ H2 a, SqT K H2 a xs → P H2 (.ref a)) : EvP te σ H (fun _ v H2 => P H2 v) := fun H1 e Q q => h H1 e _ fun p H2 hp e2 h2 => q _ H2 e2 (hP H2 p (st_of h2))
theorem ep_lstB {xs : List V} (h : EvL te σ H xs) (hP : ∀ H2 a, SqL K H2 a xs → P H2 (.ref a)) : EvP te σ H (fun _ v H2 => P H2 v) := fun H1 e Q q => h H1 e _ fun p H2 hp e2 h2 => q _ H2 e2 (hP H2 p (sq_of h2))
theorem ep_dicB (hP : ∀ H2 a, H2 a = some (.dK []) → P H2 (.ref a)) : EvP tDNewK σ H (fun _ v H2 => P H2 v) := fun H1 e Q q p hp => q _ _ (Ex.new hp) (hP _ p upd_same)
theorem ep_datB {d : PyData} (h : EvD K te σ H d) (hP : ∀ H2 v, Dp K H2 v d → P H2 v) : EvP te σ H (fun _ v H2 => P H2 v) := fun H1 e Q q => h H1 e _ fun v H2 e2 h2 => q _ H2 e2 (hP H2 v h2)
/-! new objects under a list that grows -/
structure Stab (R : Hp → V → Hp → Prop) : Prop where
  on : ∀ {H1 v H2 H3}, R H1 v H2 → Ex H2 H3 → R H1 v H3
  back : ∀ {H0 H1 v H2}, (∀ a, H1 a = none → H0 a = none) → R H1 v H2 → R H0 v H2
  upd : ∀ {H1 v H2 a o o'}, R H1 v H2 → H1 a = some o → R H1 v (upd H2 a o')
def NewU (us : List V) (H1 : Hp) (v : V) (H2 : Hp) : Prop := ∃ q, v = .ref q ∧ H1 q = none ∧ H2 q = some (.tup us)
def NewL (us : List V) (H1 : Hp) (v : V) (H2 : Hp) : Prop := ∃ q, v = .ref q ∧ H1 q = none ∧ H2 q = some (.lst us)
theorem ne_fresh {H : Hp} {a b : Addr} {o : HO} (h : H a = none) (hb : H b = some o) : a ≠ b := fun z => by subst z; rw [h] at hb; cases hb
theorem stab_U (us : List V) : Stab (NewU us) := by
  refine ⟨fun ⟨q, e, h1, h2⟩ e3 => ⟨q, e, h1, e3 _ _ h2⟩, fun e0 ⟨q, e, h1, h2⟩ => ⟨q, e, e0 _ h1, h2⟩, fun ⟨q, e, h1, h2⟩ ha => ⟨q, e, h1, by rw [upd_ne (ne_fresh h1 ha)]; exact h2⟩⟩
theorem stab_L (us : List V) : Stab (NewL us) := by
  refine ⟨fun ⟨q, e, h1, h2⟩ e3 => ⟨q, e, h1, e3 _ _ h2⟩, fun e0 ⟨q, e, h1, h2⟩ => ⟨q, e, e0 _ h1, h2⟩, fun ⟨q, e, h1, h2⟩ ha => ⟨q, e, h1, by rw [upd_ne (ne_fresh h1 ha)]; exact h2⟩⟩
theorem stab_LL (xss : List (List V)) : Stab (fun H1 v H2 => NewLL H1 v H2 xss) := by
  refine ⟨fun h e3 => h.on e3, fun {H0 H1 v H2} e0 h => ?_, fun {H1 v H2 a o o'} h ha => ?_⟩
  · obtain ⟨p, ps, rfl, h1, h2, h3⟩ := h
    exact ⟨p, ps, rfl, e0 _ h1, h2, Paired.mapP h3 fun q xs z => ⟨e0 _ z.1, z.2⟩⟩
  obtain ⟨p, ps, rfl, h1, h2, h3⟩ := h
  exact ⟨p, ps, rfl, h1, by rw [upd_ne (ne_fresh h1 ha)]; exact h2, Paired.mapP h3 fun q xs z => ⟨z.1, by rw [upd_ne (ne_fresh z.1 ha)]; exact z.2⟩⟩
theorem ep_U {xs : List V} (h : EvU te σ H xs) : EvP te σ H (NewU xs) := fun H1 e Q q => h H1 e _ fun p H2 hp e2 h2 => q _ H2 e2 ⟨p, rfl, hp, h2⟩
theorem ep_L {xs : List V} (h : EvL te σ H xs) : EvP te σ H (NewL xs) := fun H1 e Q q => h H1 e _ fun p H2 hp e2 h2 => q _ H2 e2 ⟨p, rfl, hp, h2⟩
/-- [[..]], [[..], [..]] -/
theorem ep_LL1 {xs : List V} (h : EvL ta σ H xs) : EvP (tLst (tCons ta tNil)) σ H (fun H1 v H2 => NewLL H1 v H2 [xs]) := fun H1 e Q q =>
  h H1 e _ fun p H2 hp e2 h2 => ⟨sz_of (by simp), fun r hr => q _ _ (e2.trans (Ex.new hr)) ⟨r, [p], rfl, fresh_back e2 hr, upd_same, .cons ⟨hp, Ex.new hr _ _ h2⟩ .nil⟩⟩
theorem ep_LL2 {xs ys : List V} (h : EvL ta σ H xs) (h' : EvL tb σ H ys) : EvP (tLst (tCons ta (tCons tb tNil))) σ H (fun H1 v H2 => NewLL H1 v H2 [xs, ys]) := fun H1 e Q q =>
  h H1 e _ fun p H2 hp e2 h2 => h' H2 (e.trans e2) _ fun s H3 hs e3 h3 => ⟨sz_of (by simp), fun r hr => q _ _ ((e2.trans e3).trans (Ex.new hr)) ⟨r, [p, s], rfl, fresh_back (e2.trans e3) hr, upd_same, .cons ⟨hp, Ex.new hr _ _ (e3 _ _ h2)⟩ (.cons ⟨fresh_back e2 hs, Ex.new hr _ _ h3⟩ .nil)⟩⟩
/-- [a new object for x in xs] -/
theorem ep_lcX {R : V → Hp → V → Hp → Prop} {j : Nat} {vs : List Nat} {xs : List V} (st : ∀ x, Stab (R x)) (h : EvS K tl σ H xs) (hz : xs.length ≤ 1000) (hw : ∀ x, wipe ((wipe σ vs).set j (some x)) vs = wipe σ vs)
    (he : ∀ x ∈ xs, ∀ H1, Ex H H1 → EvP te ((wipe σ vs).set j (some x)) H1 (R x)) :
    EvP (tLc (iList K tl) (gName j) tYes te vs) σ H (fun H1 v H2 => ∃ p ys, v = .ref p ∧ H2 p = some (.lst ys) ∧ Paired (fun y x => R x H1 y H2) ys xs) := fun H0 e Q q => h H0 e _ fun a H1 e1 ha => ⟨a, rfl, ⟨_, ha⟩, fun Dl hD => by
  have hd0 : ∀ a, (upd H1 Dl (.lst [])) a = none → H1 a = none := fun a h => by
    have : a ≠ Dl := fun z => by rw [z, upd_same] at h; cases h
    rw [upd_ne this] at h
    exact h
  refine lc_list (xs := xs) (fun n H' => H1 Dl = none ∧ Ex H1 H' ∧ ∃ ys, H' Dl = some (.lst ys) ∧ Paired (fun y x => R x (upd H1 Dl (.lst [])) y H') ys (xs.take n)) ⟨hD, Ex.new hD, [], upd_same, .nil⟩ (fun n H' _ p => ex_l p.2.1 ha) (fun n x H' hi p => ?_) (fun H' p => ?_)
  · obtain ⟨p1, p2, ys, p3, p4⟩ := p
    refine ⟨hw _, ?_⟩
    have yl := Paired.length p4
    rw [List.length_take] at yl
    have hm : x ∈ xs := List.mem_of_getElem? hi
    have dom : ∀ a, H' a = none → (upd H1 Dl (.lst [])) a = none := fun a h => by
      have : a ≠ Dl := fun z => by rw [z, p3] at h; cases h
      rw [upd_ne this]
      exact fresh_back p2 h
    show te _ _ _
    refine he x hm H1 (e.trans e1) H' p2 _ fun y H4 e4 hy => ⟨ys, e4 _ _ p3, sz_lt (by omega), p1, Ex.mut (p2.trans e4) p1, ys ++ [y], upd_same, ?_⟩
    rw [take_snoc hi]
    exact paired_snoc (Paired.mapP p4 fun y' x' hr => (st x').upd ((st x').on hr e4) upd_same) ((st x).upd ((st x).back dom hy) upd_same)
  · obtain ⟨p1, p2, ys, p3, p4⟩ := p
    rw [List.take_length] at p4
    exact q _ H' (e1.trans p2) ⟨Dl, ys, rfl, p3, Paired.mapP p4 fun y x hr => (st x).back (fun a h => fresh_back e1 (hd0 a h)) hr⟩⟩
end
/-! what is refused, of four kinds -/
def BadE (K : PySem.W.Frag) (lo hi : Int) (H : Hp) (x : V) : Prop := (∃ n, Known K H x n) ∧ (∃ d, Dp K H x d ∧ PyData.canLay0 d = true ∧ d.depth ≤ 1) ∧ inRange lo hi x = false
theorem BadE.mono {K : PySem.W.Frag} {lo hi : Int} : Mono (BadE K lo hi) := fun H H' v e h => by
  obtain ⟨⟨n, h1⟩, ⟨d, h2, h3⟩, h4⟩ := h
  exact ⟨⟨n, h1.mono e⟩, ⟨d, Dp.mono e h2, h3⟩, h4⟩
def BadCl (K : PySem.W.Frag) (H : Hp) (v : V) : Prop := (∃ n, Known K H v n ∧ n ≠ "list") ∨ ∃ a xs rows, v = .ref a ∧ SqL K H a xs ∧ xs.length ≤ 1000 ∧ Paired (RowIs K H) xs rows ∧ cluesChk rows = false
theorem BadCl.mono {K : PySem.W.Frag} : Mono (BadCl K) := fun H H' v e h => by
  rcases h with ⟨n, h1, h2⟩ | ⟨a, xs, rows, rfl, h1, h2, h3, h4⟩
  · exact .inl ⟨n, h1.mono e, h2⟩
  · exact .inr ⟨a, xs, rows, rfl, ex_l e h1, h2, Paired.mapP h3 fun _ _ z => z.mono e, h4⟩
def BadGt (K : PySem.W.Frag) (H : Hp) (v : V) : Prop := ∃ g h w, v = .ref g ∧ SqT K H g [.int ((h : Nat) : Int), .int ((w : Nat) : Int)] ∧ GOk h w ∧ 9 < h * w
theorem BadGt.mono {K : PySem.W.Frag} : Mono (BadGt K) := fun H H' v e h => by
  obtain ⟨g, a, b, rfl, h1, h2⟩ := h
  exact ⟨g, a, b, rfl, ex_t e h1, h2⟩
/-- refused: 0 no grid, 1 too great a grid, 2 no cells, 3 no clues -/
def Bad07 (K : PySem.W.Frag) : Nat → Hp → V → Prop
  | 0 => BadG K
  | 1 => BadGt K
  | 2 => fun H v => BadC K H 6 v
  | _ => BadCl K
theorem Bad07.mono {K : PySem.W.Frag} (k : Nat) : Mono (Bad07 K k) := fun H H' v e h => by
  match k, h with
  | 0, h => exact BadG.mono e h
  | 1, h => exact BadGt.mono _ _ _ e h
  | 2, h => exact BadC.mono e h
  | k + 3, h => exact BadCl.mono _ _ _ e h
section
variable {K : PySem.W.Frag} {σ : L2.St} {H : Hp} {te : TE} {lo hi : Int}
theorem bad_non (H : Hp) : BadE K lo hi H .non := ⟨⟨_, .base .non, by decide⟩, ⟨_, .non, rfl, by simp [PyData.depth]⟩, rfl⟩
theorem bad_bl (H : Hp) (b : Bool) : BadE K lo hi H (.bl b) := ⟨⟨_, .base (.bl b), by decide⟩, ⟨_, .bl b, rfl, by simp [PyData.depth]⟩, rfl⟩
theorem bad_int (H : Hp) {i : Int} (h : ¬ (lo ≤ i ∧ i ≤ hi)) : BadE K lo hi H (.int i) := ⟨⟨_, known_int i⟩, ⟨_, .int i, rfl, by simp [PyData.depth]⟩, by show (decide (lo ≤ i) && decide (i ≤ hi)) = false; rw [Bool.eq_false_iff]; intro z; simp at z; omega⟩
theorem bad_str (H : Hp) {x : Str} (h : PyData.canLay0 (.str x) = true) : BadE K lo hi H (.str x) := ⟨⟨_, .base (.str x), by decide⟩, ⟨_, .str x, h, by simp [PyData.depth]⟩, rfl⟩
theorem bad_lst {i : Int} (H : Hp) (a : Addr) (h : SqL K H a [.int i]) : BadE K lo hi H (.ref a) := ⟨⟨_, ty_list h, by decide⟩, ⟨_, .lst h (.cons (.int i) .nil), by simp [PyData.canLay0, PyData.canLayAll0], by simp [PyData.depth, PyData.depthAll]⟩, rfl⟩
theorem bad_tup {i : Int} (H : Hp) (a : Addr) (h : SqT K H a [.int i]) : BadE K lo hi H (.ref a) := ⟨⟨_, ty_tuple h, by decide⟩, ⟨_, .tup h (.cons (.int i) .nil), by simp [PyData.canLay0, PyData.canLayAll0], by simp [PyData.depth, PyData.depthAll]⟩, rfl⟩
end
/-- isinstance of the caught error -/
theorem ev_isX {K : PySem.W.Frag} {σ : L2.St} {H : Hp} {i : Nat} {a D e : Addr} {b : Bool} (hi : σ[i]? = some (some (.ref a))) (ex : ExcC K D) (k : PySem.W.kitOne K (.ref D) (.ref e) = some b) : Ev (tCB (rIsX K (.ref D) none a) (tCons (tVar i) (tCons (tC (.ref e)) tNil))) σ H (.bl b) := fun H1 e1 Q q =>
  (ev_var (H := H) hi) H1 e1 _ fun H2 e2 => ⟨D, rfl, rfl, ex, .ref e, .ref e, b, rfl, fun u r => by cases r; rfl, k, q H2 e2⟩
theorem ev_isV {K : PySem.W.Frag} {σ : L2.St} {H : Hp} {i : Nat} {a D : Addr} {b : Bool} (hi : σ[i]? = some (some (.ref a))) (ex : ExcC K D) (k : PySem.W.kitOne K (.ref D) (.type "ValueError") = some b) : Ev (tCB (rIsX K (.ref D) none a) (tCons (tVar i) (tCons (tC (.ty "ValueError")) tNil))) σ H (.bl b) := fun H1 e1 Q q =>
  (ev_var (H := H) hi) H1 e1 _ fun H2 e2 => ⟨D, rfl, rfl, ex, .ty "ValueError", .type "ValueError", b, rfl, fun u r => by cases r; rfl, k, q H2 e2⟩
/-! ### the doors that are asked -/
def sp_l_with_grid (K : PySem.W.Frag) (C : Ad) : Sp := fun vs H Q E => ∃ d v, vs = [.int d, v] ∧ BadG K H v ∧ RetE C.cBadGrid H E
def sp_l_with_great (K : PySem.W.Frag) (C : Ad) : Sp := fun vs H Q E => ∃ d v, vs = [.int d, v] ∧ BadGt K H v ∧ RetE C.cBadGrid H E
def sp_l_with_cells (K : PySem.W.Frag) (C : Ad) : Sp := fun vs H Q E => ∃ d v, vs = [.int d, v] ∧ BadC K H 6 v ∧ RetE C.cBadCells H E
def sp_l_with_clues (K : PySem.W.Frag) (C : Ad) : Sp := fun vs H Q E => ∃ d v, vs = [.int d, v] ∧ BadCl K H v ∧ RetE C.cBadClues H E
def t_l_with_grid (K : PySem.W.Frag) (C : Ad) (E : XK) : TS := (tSeq (tIfS (tTest (tOp oLt (tVar 0) (tC (.int 2)))) (tRet (tIf (tTest (tOp rEq (tVar 0) (tC (.int 0)))) (tCall (sp_rings K C) [] E (tCons (tVar 1) tNil)) (tCall (sp_numbers K C) [] E (tCons (tVar 1) (tCons (tC .non) tNil))))) tNext)
      (tRet (tIf (tTest (tOp rEq (tVar 0) (tC (.int 2)))) (tCall (sp_judged K C) [] E (tCons (tVar 1) (tCons (tC .non) tNil))) (tCall (sp_walk K C) [] E (tCons (tVar 1) (tCons (tC .non) tNil))))))
def t_l_with_great (K : PySem.W.Frag) (C : Ad) (E : XK) : TS := (tRet (tCall (sp_rings K C) [] E (tCons (tVar 1) tNil)))
def t_l_with_cells (K : PySem.W.Frag) (C : Ad) (E : XK) : TS := (tSeq (tIfS (tTest (tOp rEq (tVar 0) (tC (.int 0)))) (tRet (tCall (sp_numbers K C) [] E (tCons (tTup (tCons (tC (.int 2)) (tCons (tC (.int 3)) tNil))) (tCons (tVar 1) tNil)))) tNext)
      (tRet (tIf (tTest (tOp rEq (tVar 0) (tC (.int 1)))) (tCall (sp_judged K C) [] E (tCons (tTup (tCons (tC (.int 2)) (tCons (tC (.int 3)) tNil))) (tCons (tVar 1) tNil))) (tCall (sp_walk K C) [] E (tCons (tTup (tCons (tC (.int 2)) (tCons (tC (.int 3)) tNil))) (tCons (tVar 1) tNil))))))
def t_l_with_clues (K : PySem.W.Frag) (C : Ad) (E : XK) : TS := (tRet (tIf (tTest (tOp rEq (tVar 0) (tC (.int 0)))) (tCall (sp_fitting K C) [] E (tCons (tVar 1) tNil)) (tCall (sp_told K C) [] E (tCons (tVar 1) tNil))))
theorem RetE.mono {c : Addr} {H H' : Hp} {E : XK} (e : Ex H H') (h : RetE c H E) : RetE c H' E := fun H2 e2 => h H2 (e.trans e2)
theorem tif_of {t : TT} {ta tb : TE} {σ : L2.St} {H : Hp} {Q : VK} {b : Bool} (h : EvT t σ H b) (h1 : ∀ H1, Ex H H1 → ta σ H1 Q) (h2 : ∀ H1, Ex H H1 → tb σ H1 Q) : tIf t ta tb σ H Q := h H (Ex.refl H) _ fun H1 e => by
  cases b with
  | true => exact h1 H1 e
  | false => exact h2 H1 e
theorem pure_l_with_grid {K : PySem.W.Frag} {C : Ad} {vs : List V} {H : Hp} {Q : VK} {E : XK} {D : Ends} (hD : D.rt = Q) {N : List Str} (hN : N.length = 2) (h : sp_l_with_grid K C vs H Q E) : t_l_with_grid K C E D (start N vs) H := by
  obtain ⟨d, v, rfl, hb, q⟩ := h
  subst hD
  rw [start_eq hN]
  change t_l_with_grid K C E D [some (.int d), some v] H
  refine q_when (et_test (ev_op (x := .int d) (y := .int 2) (ev_var rfl) ev_c rv_I0)) (fun _ H1 e1 => ?_) (fun _ H1 e1 => ?_)
  · refine tif_of (et_test (ev_op (x := .int d) (y := .int 0) (ev_var rfl) ev_c (rv_eq rfl))) (fun H2 e2 => ?_) (fun H2 e2 => ?_)
    · exact ⟨v, rfl, v, rfl, .inl ⟨hb.mono (e1.trans e2), q.mono (e1.trans e2)⟩⟩
    · exact ⟨v, rfl, v, .non, rfl, .inl ⟨hb.mono (e1.trans e2), q.mono (e1.trans e2)⟩⟩
  · refine tif_of (et_test (ev_op (x := .int d) (y := .int 2) (ev_var rfl) ev_c (rv_eq rfl))) (fun H2 e2 => ?_) (fun H2 e2 => ?_)
    · exact ⟨v, rfl, v, .non, rfl, .inl ⟨hb.mono (e1.trans e2), q.mono (e1.trans e2)⟩⟩
    · exact ⟨v, rfl, v, .non, rfl, .inl ⟨hb.mono (e1.trans e2), q.mono (e1.trans e2)⟩⟩
theorem pure_l_with_great {K : PySem.W.Frag} {C : Ad} {vs : List V} {H : Hp} {Q : VK} {E : XK} {D : Ends} (hD : D.rt = Q) {N : List Str} (hN : N.length = 2) (h : sp_l_with_great K C vs H Q E) : t_l_with_great K C E D (start N vs) H := by
  obtain ⟨d, v, rfl, ⟨g, a, b, rfl, h1, h2, h3⟩, q⟩ := h
  subst hD
  rw [start_eq hN]
  change t_l_with_great K C E D [some (.int d), some (.ref g)] H
  exact ⟨_, rfl, _, rfl, .inr ⟨g, a, b, rfl, h1, h2, .inl ⟨h3, q⟩⟩⟩
theorem call_bad2 {K : PySem.W.Frag} {sp : Sp} {E : XK} {σ : L2.St} {H : Hp} {Q : VK} {ta tb : TE} {xs : List V} {v : V} (ha : EvST K ta σ H xs) (hb : Ev tb σ H v) (h : ∀ g H1, Ex H H1 → SqT K H1 g xs → sp [.ref g, v] H1 Q E) : tCall sp [] E (tCons ta (tCons tb tNil)) σ H Q :=
  ha H (Ex.refl H) _ fun g H1 e1 hg => hb H1 e1 _ fun H2 e2 => h g H2 (e1.trans e2) (ex_t e2 hg)
theorem pure_l_with_cells {K : PySem.W.Frag} {C : Ad} {vs : List V} {H : Hp} {Q : VK} {E : XK} {D : Ends} (hD : D.rt = Q) {N : List Str} (hN : N.length = 2) (h : sp_l_with_cells K C vs H Q E) : t_l_with_cells K C E D (start N vs) H := by
  obtain ⟨d, v, rfl, hb, q⟩ := h
  subst hD
  rw [start_eq hN]
  change t_l_with_cells K C E D [some (.int d), some v] H
  have tup : ∀ {H1 : Hp}, EvST K (tTup (tCons (tC (.int 2)) (tCons (tC (.int 3)) tNil))) [some (.int d), some v] H1 [.int ((2 : Nat) : Int), .int ((3 : Nat) : Int)] := est_new (eu_tup (ea_cons ev_c (ea_cons ev_c ea_nil)) (by simp))
  have g23 : GOk 2 3 := ⟨by decide, by decide, by decide, by decide⟩
  refine q_when (et_test (ev_op (x := .int d) (y := .int 0) (ev_var rfl) ev_c (rv_eq rfl))) (fun _ H1 e1 => ?_) (fun _ H1 e1 => ?_)
  · exact call_bad2 tup (ev_var rfl) fun g H2 e2 hg => ⟨.ref g, v, rfl, .inr ⟨g, 2, 3, rfl, hg, g23, .inl ⟨BadC.mono (e1.trans e2) hb, q.mono (e1.trans e2)⟩⟩⟩
  · refine tif_of (et_test (ev_op (x := .int d) (y := .int 1) (ev_var rfl) ev_c (rv_eq rfl))) (fun H2 e2 => ?_) (fun H2 e2 => ?_)
    · exact call_bad2 tup (ev_var rfl) fun g H3 e3 hg => ⟨.ref g, v, rfl, .inr ⟨g, 2, 3, rfl, hg, g23, .inl ⟨BadC.mono ((e1.trans e2).trans e3) hb, q.mono ((e1.trans e2).trans e3)⟩⟩⟩
    · exact call_bad2 tup (ev_var rfl) fun g H3 e3 hg => ⟨.ref g, v, rfl, .inr ⟨g, 2, 3, rfl, hg, g23, .inl ⟨BadC.mono ((e1.trans e2).trans e3) hb, q.mono ((e1.trans e2).trans e3)⟩⟩⟩
theorem badCl_door {K : PySem.W.Frag} {C : Ad} {H : Hp} {E : XK} {v : V} {ok : Addr → List Row → Prop} (hb : BadCl K H v) (q : RetE C.cBadClues H E) : DoorC K C v H E ok := by
  rcases hb with h | ⟨a, xs, rows, rfl, h1, h2, h3, h4⟩
  · exact .inl ⟨h, q⟩
  · exact .inr ⟨a, xs, rows, rfl, h1, h2, h3, .inl ⟨h4, q⟩⟩
theorem pure_l_with_clues {K : PySem.W.Frag} {C : Ad} {vs : List V} {H : Hp} {Q : VK} {E : XK} {D : Ends} (hD : D.rt = Q) {N : List Str} (hN : N.length = 2) (h : sp_l_with_clues K C vs H Q E) : t_l_with_clues K C E D (start N vs) H := by
  obtain ⟨d, v, rfl, hb, q⟩ := h
  subst hD
  rw [start_eq hN]
  change t_l_with_clues K C E D [some (.int d), some v] H
  refine tif_of (et_test (ev_op (x := .int d) (y := .int 0) (ev_var rfl) ev_c (rv_eq rfl))) (fun H2 e2 => ?_) (fun H2 e2 => ?_)
  · exact ⟨v, rfl, v, rfl, badCl_door (BadCl.mono _ _ _ e2 hb) (q.mono e2)⟩
  · exact ⟨v, rfl, v, rfl, badCl_door (BadCl.mono _ _ _ e2 hb) (q.mono e2)⟩
/-! ### _law_alone, _law_refused -/
structure Fns where
  (l_with_grid l_with_great l_with_cells l_with_clues l_no_grids l_great l_no_cells l_no_clues : Addr)
def RAsk (K : PySem.W.Frag) (C : Ad) (F : Fns) (f : Addr) (sp : Sp) : Prop := (f = F.l_with_grid ∧ sp = sp_l_with_grid K C) ∨ (f = F.l_with_great ∧ sp = sp_l_with_great K C) ∨ (f = F.l_with_cells ∧ sp = sp_l_with_cells K C) ∨ (f = F.l_with_clues ∧ sp = sp_l_with_clues K C)
def sp_l_alone (K : PySem.W.Frag) (C : Ad) (a : Addr) (cls : Value) (dx : Option Addr) : Sp := fun vs H Q _ => ∃ due, vs = [.ref a, .int due] ∧ dx = none ∧ ((due = 0 ∧ cls = .ref C.cBadGrid) ∨ (due = 1 ∧ cls = .ref C.cBadCells) ∨ (due = 2 ∧ cls = .ref C.cBadClues)) ∧ RetV (.bl true) H Q
def t_l_alone (K : PySem.W.Frag) (C : Ad) (ea : Addr) (ec : Value) (ed : Option Addr) : TS := (tSeq (tAsg (tLst (tCons (tCB (rIsX K ec ed ea) (tCons (tVar 0) (tCons (tC (.ref C.cBadGrid)) tNil))) (tCons (tCB (rIsX K ec ed ea) (tCons (tVar 0) (tCons (tC (.ref C.cBadCells)) tNil))) (tCons (tCB (rIsX K ec ed ea) (tCons (tVar 0) (tCons (tC (.ref C.cBadClues)) tNil))) tNil)))) (gName 2))
      (tRet (tAndV (tOp (rEqD K) (tOp rCat (tVar 2) (tLst (tCons (tCB (rIsX K ec ed ea) (tCons (tVar 0) (tCons (tC (.ref C.cNoRing)) tNil))) tNil))) (tLc (iRng1 (tCons (tC (.int 4)) tNil)) (gName 3) tYes (tOp rEq (tVar 3) (tVar 1)) [3])) (tCB (rIsX K ec ed ea) (tCons (tVar 0) (tCons (tC (.ty "ValueError")) tNil))))))
theorem dpAll_bls {K : PySem.W.Frag} {H : Hp} : ∀ bs : List Bool, DpAll K H (bs.map V.bl) (bs.map PyData.bool)
  | [] => .nil
  | b :: r => .cons (.bl b) (dpAll_bls r)
theorem ed_bls {K : PySem.W.Frag} {σ : L2.St} {H : Hp} {te : TE} {bs : List Bool} (h : EvL te σ H (bs.map V.bl)) : EvD K te σ H (.list (bs.map PyData.bool)) := fun H2 e2 Q' q' => h H2 e2 _ fun r H3 hr e3 h3 => q' _ H3 e3 (.lst (sq_of h3) (dpAll_bls bs))
theorem lay_bls : ∀ bs : List Bool, PyData.canLayAll0 (bs.map PyData.bool) = true
  | [] => rfl
  | b :: r => by rw [List.map_cons, PyData.canLayAll0, lay_bls r]; rfl
theorem depth_bls : ∀ bs : List Bool, PyData.depthAll (bs.map PyData.bool) = 0
  | [] => by simp [PyData.depthAll]
  | b :: r => by simp [PyData.depthAll, PyData.depth, depth_bls r]
theorem shaped_bls (bs : List Bool) : SeqAt.shaped (.list (bs.map PyData.bool)) = true := shaped_of_len (lay_bls bs) (by rw [depth_bls]; decide)
theorem alone_step {K : PySem.W.Frag} {C : Ad} {D : Ends} {H : Hp} {a B : Addr} {due : Int} {b0 b1 b2 b3 : Bool} (ex : ExcC K B) (k0 : PySem.W.kitOne K (.ref B) (.ref C.cBadGrid) = some b0) (k1 : PySem.W.kitOne K (.ref B) (.ref C.cBadCells) = some b1) (k2 : PySem.W.kitOne K (.ref B) (.ref C.cBadClues) = some b2) (k3 : PySem.W.kitOne K (.ref B) (.ref C.cNoRing) = some b3) (kv : PySem.W.kitOne K (.ref B) (.type "ValueError") = some true)
    (he : ([b0, b1, b2] ++ [b3]) = (List.range 4).map fun (i : Nat) => decide ((i : Int) = due)) (q : RetV (.bl true) H D.rt) : t_l_alone K C a (.ref B) none D [some (.ref a), some (.int due), none, none] H := by
  refine q_asgL (i := 2) (xs := [V.bl b0, V.bl b1, V.bl b2]) (el_lst (ea_cons (ev_isX rfl ex k0) (ea_cons (ev_isX rfl ex k1) (ea_cons (ev_isX rfl ex k2) ea_nil))) (by simp)) fun p H1 hp e1 h1 => ?_
  have lc := el_lcR (σ := [some (.ref a), some (.int due), some (.ref p), none]) (H := H1) (t := tYes) (te := tOp rEq (tVar 3) (tVar 1)) (j := 3) (vs := [3]) (n := 4) (ta := tCons (tC (.int 4)) tNil) (fun _ => true) (fun i => V.bl (decide (V.int (i : Int) = V.int due))) (ea_cons ev_c ea_nil) (by decide) (fun _ => rfl) (fun _ _ _ _ => et_yes) (fun i H2 e2 _ _ => ev_op (x := .int (i : Int)) (y := .int due) (ev_var rfl) (ev_var rfl) (rv_eq rfl))
  have cat : EvL (tOp rCat (tVar 2) (tLst (tCons (tCB (rIsX K (.ref B) none a) (tCons (tVar 0) (tCons (tC (.ref C.cNoRing)) tNil))) tNil))) [some (.ref a), some (.int due), some (.ref p), none] H1 ([V.bl b0, V.bl b1, V.bl b2] ++ [V.bl b3]) := fun H2 e2 Q' q' =>
    (ev_var (H := H1) (i := 2) (v := .ref p) rfl) H2 e2 _ fun H3 e3 => (el_lst (H := H1) (ea_cons (ev_isX (K := K) rfl ex k3) ea_nil) (by simp)) H3 (e2.trans e3) _ fun r H4 hr e4 h4 => ⟨p, r, _, _, rfl, rfl, e4 _ _ (e3 _ _ (e2 _ _ h1)), h4, sz_of (by simp), fun s hs => q' s _ (fresh_back (e3.trans e4) hs) ((e3.trans e4).trans (Ex.new hs)) upd_same⟩
  have e4 : (((List.range 4).filter fun _ => true).map fun (i : Nat) => V.bl (decide (V.int (i : Int) = V.int due))) = ([b0, b1, b2] ++ [b3]).map V.bl := by
    rw [he, List.map_map, show ((List.range 4).filter fun _ => true) = List.range 4 from List.filter_eq_self.mpr fun _ _ => rfl]
    refine List.map_congr_left fun i _ => ?_
    show V.bl (decide (V.int (i : Int) = V.int due)) = V.bl (decide ((i : Int) = due))
    congr 1
    simp
  rw [e4] at lc
  refine s_ret (v := .bl true) (ev_is (ev_andV (a := true) (b := true) (ev_is (ev_eqD (d := .list (([b0, b1, b2] ++ [b3]).map PyData.bool)) (d' := .list (([b0, b1, b2] ++ [b3]).map PyData.bool)) (ed_bls (K := K) cat) (ed_bls (K := K) lc) (shaped_bls _) (shaped_bls _)) (by rw [SeqAt.eqv_refl _ (by rw [PyData.canLay0]; exact lay_bls _)])) (fun _ => ev_isV rfl ex kv)) rfl) fun H2 e2 => q H2 (e1.trans e2)
theorem pure_l_alone {K : PySem.W.Frag} {C : Ad} {a : Addr} {cls : Value} {dx : Option Addr} {vs : List V} {H : Hp} {Q : VK} {E : XK} {D : Ends} (hD : D.rt = Q) {N : List Str} (hN : N.length = 4)
    (ex_BadGrid : ExcC K C.cBadGrid) (ex_BadCells : ExcC K C.cBadCells) (ex_BadClues : ExcC K C.cBadClues)
    (ki_BadGrid_BadGrid : PySem.W.kitOne K (.ref C.cBadGrid) (.ref C.cBadGrid) = some true) (ki_BadGrid_BadCells : PySem.W.kitOne K (.ref C.cBadGrid) (.ref C.cBadCells) = some false) (ki_BadGrid_BadClues : PySem.W.kitOne K (.ref C.cBadGrid) (.ref C.cBadClues) = some false) (ki_BadGrid_NoRing : PySem.W.kitOne K (.ref C.cBadGrid) (.ref C.cNoRing) = some false)
    (ki_BadCells_BadGrid : PySem.W.kitOne K (.ref C.cBadCells) (.ref C.cBadGrid) = some false) (ki_BadCells_BadCells : PySem.W.kitOne K (.ref C.cBadCells) (.ref C.cBadCells) = some true) (ki_BadCells_BadClues : PySem.W.kitOne K (.ref C.cBadCells) (.ref C.cBadClues) = some false) (ki_BadCells_NoRing : PySem.W.kitOne K (.ref C.cBadCells) (.ref C.cNoRing) = some false)
    (ki_BadClues_BadGrid : PySem.W.kitOne K (.ref C.cBadClues) (.ref C.cBadGrid) = some false) (ki_BadClues_BadCells : PySem.W.kitOne K (.ref C.cBadClues) (.ref C.cBadCells) = some false) (ki_BadClues_BadClues : PySem.W.kitOne K (.ref C.cBadClues) (.ref C.cBadClues) = some true) (ki_BadClues_NoRing : PySem.W.kitOne K (.ref C.cBadClues) (.ref C.cNoRing) = some false)
    (kv_BadGrid : PySem.W.kitOne K (.ref C.cBadGrid) (.type "ValueError") = some true) (kv_BadCells : PySem.W.kitOne K (.ref C.cBadCells) (.type "ValueError") = some true) (kv_BadClues : PySem.W.kitOne K (.ref C.cBadClues) (.type "ValueError") = some true)
    (h : sp_l_alone K C a cls dx vs H Q E) : t_l_alone K C a cls dx D (start N vs) H := by
  obtain ⟨due, rfl, rfl, hk, q⟩ := h
  subst hD
  rw [start_eq hN]
  rcases hk with ⟨rfl, rfl⟩ | ⟨rfl, rfl⟩ | ⟨rfl, rfl⟩
  · exact alone_step ex_BadGrid ki_BadGrid_BadGrid ki_BadGrid_BadCells ki_BadGrid_BadClues ki_BadGrid_NoRing kv_BadGrid (by decide) q
  · exact alone_step ex_BadCells ki_BadCells_BadGrid ki_BadCells_BadCells ki_BadCells_BadClues ki_BadCells_NoRing kv_BadCells (by decide) q
  · exact alone_step ex_BadClues ki_BadClues_BadGrid ki_BadClues_BadCells ki_BadClues_BadClues ki_BadClues_NoRing kv_BadClues (by decide) q
/-- the def that asks, by the kind -/
def askOf (F : Fns) : Nat → Addr
  | 0 => F.l_with_grid
  | 1 => F.l_with_great
  | 2 => F.l_with_cells
  | _ => F.l_with_clues
def dueOf : Nat → Int
  | 0 => 0
  | 1 => 0
  | 2 => 1
  | _ => 2
def sp_l_refused (K : PySem.W.Frag) (C : Ad) (F : Fns) : Sp := fun vs H Q _ => ∃ k d v, vs = [.ref (askOf F k), .int d, v, .int (dueOf k)] ∧ Bad07 K k H v ∧ RetV (.bl true) H Q
def t_l_refused (K : PySem.W.Frag) (C : Ad) (F : Fns) : TS := (tSeq (tTry K (.ref C.cRingError) 4 (fun W => (tDrop (tCallR 0 (RAsk K C F) (WE W) (tCons (tVar 1) (tCons (tVar 2) tNil))))) (fun ea ec ed => (tRet (tCall (sp_l_alone K C ea ec ed) [] E0 (tCons (tVar 4) (tCons (tVar 3) tNil))))))
      (tRet (tC (.bl false))))
theorem pure_l_refused {K : PySem.W.Frag} {C : Ad} {F : Fns} {vs : List V} {H : Hp} {Q : VK} {E : XK} {D : Ends} (hD : D.rt = Q) {N : List Str} (hN : N.length = 5) (em_BadGrid : PySem.W.exmOne K (.ref C.cBadGrid) (.ref C.cRingError) = some true) (em_BadCells : PySem.W.exmOne K (.ref C.cBadCells) (.ref C.cRingError) = some true) (em_BadClues : PySem.W.exmOne K (.ref C.cBadClues) (.ref C.cRingError) = some true)
    (h : sp_l_refused K C F vs H Q E) : t_l_refused K C F D (start N vs) H := by
  obtain ⟨k, d, v, rfl, hb, q⟩ := h
  subst hD
  rw [start_eq hN]
  change t_l_refused K C F D [some (.ref (askOf F k)), some (.int d), some v, some (.int (dueOf k)), none] H
  match k, hb with
  | 0, hb => exact ⟨_, _, rfl, .inl ⟨rfl, rfl⟩, _, rfl, _, rfl, d, v, rfl, hb, fun H1 e1 => ⟨true, em_BadGrid, fun _ a ha => ⟨_, rfl, _, rfl, 0, rfl, rfl, .inl ⟨rfl, rfl⟩, fun H2 e2 => q H2 (e1.trans e2)⟩, fun z => nomatch z⟩⟩
  | 1, hb => exact ⟨_, _, rfl, .inr (.inl ⟨rfl, rfl⟩), _, rfl, _, rfl, d, v, rfl, hb, fun H1 e1 => ⟨true, em_BadGrid, fun _ a ha => ⟨_, rfl, _, rfl, 0, rfl, rfl, .inl ⟨rfl, rfl⟩, fun H2 e2 => q H2 (e1.trans e2)⟩, fun z => nomatch z⟩⟩
  | 2, hb => exact ⟨_, _, rfl, .inr (.inr (.inl ⟨rfl, rfl⟩)), _, rfl, _, rfl, d, v, rfl, hb, fun H1 e1 => ⟨true, em_BadCells, fun _ a ha => ⟨_, rfl, _, rfl, 1, rfl, rfl, .inr (.inl ⟨rfl, rfl⟩), fun H2 e2 => q H2 (e1.trans e2)⟩, fun z => nomatch z⟩⟩
  | k + 3, hb => exact ⟨_, _, rfl, .inr (.inr (.inr ⟨rfl, rfl⟩)), _, rfl, _, rfl, d, v, rfl, hb, fun H1 e1 => ⟨true, em_BadClues, fun _ a ha => ⟨_, rfl, _, rfl, 2, rfl, rfl, .inr (.inr ⟨rfl, rfl⟩), fun H2 e2 => q H2 (e1.trans e2)⟩, fun z => nomatch z⟩⟩

/-! ### the things that are refused, as the law lists them (k07) -/
theorem mapB {P P' : Hp → V → Prop} {te : TE} {σ : L2.St} {H : Hp} (h : EvP te σ H (fun _ v H2 => P H2 v)) (hP : ∀ {H2 v}, P H2 v → P' H2 v) : EvP te σ H (fun _ v H2 => P' H2 v) := fun H1 e Q q => h H1 e _ fun v H2 e2 z => q v H2 e2 (hP z)
def sp_things (K : PySem.W.Frag) (k n : Nat) : Sp := fun vs H Q _ => ∃ c, vs = [.int c] ∧ 0 ≤ c ∧ RetP (fun _ v H2 => InAll (Bad07 K k) n H2 v) H Q
def sp_l_no_grids (K : PySem.W.Frag) : Sp := fun vs H Q _ => ∃ c, vs = [.int c] ∧ 0 ≤ c ∧ RetP (fun _ v H2 => InAll (Bad07 K 0) 30 H2 v) H Q
def sp_l_great (K : PySem.W.Frag) : Sp := fun vs H Q _ => ∃ c, vs = [.int c] ∧ 0 ≤ c ∧ RetP (fun _ v H2 => InAll (Bad07 K 1) 5 H2 v) H Q
def sp_l_no_cells (K : PySem.W.Frag) : Sp := fun vs H Q _ => ∃ c, vs = [.int c] ∧ 0 ≤ c ∧ RetP (fun _ v H2 => InAll (Bad07 K 2) 30 H2 v) H Q
def sp_l_no_clues (K : PySem.W.Frag) : Sp := fun vs H Q _ => ∃ c, vs = [.int c] ∧ 0 ≤ c ∧ RetP (fun _ v H2 => InAll (Bad07 K 3) 38 H2 v) H Q
def t_l_no_grids (K : PySem.W.Frag) : TS := (tSeq (tAsg (tLst (tCons (tC .non) (tCons (tC (.int 0)) (tCons (tUn oNeg (tC (.int 1))) (tCons (tOp oSub (tUn oNeg (tC (.int 1))) (tVar 0)) (tCons (tC (.int 7)) (tCons (tOp oAdd (tC (.int 7)) (tVar 0)) (tCons (tC (.bl true)) (tCons (tC (.bl false)) (tCons (tC (.str "3")) (tCons (tLst (tCons (tC (.int 3)) tNil)) (tCons (tTup (tCons (tC (.int 3)) tNil)) tNil)))))))))))) (gName 1))
      (tSeq (tAsg (tLst (tCons (tC .non) (tCons (tC (.int 5)) (tCons (tTup tNil) (tCons (tTup (tCons (tC (.int 3)) tNil)) (tCons (tTup (tCons (tC (.int 2)) (tCons (tC (.int 2)) (tCons (tC (.int 2)) tNil)))) (tCons (tLst (tCons (tC (.int 2)) (tCons (tC (.int 2)) tNil))) (tCons (tC (.str "22")) (tCons tDNewK tNil))))))))) (gName 2))
      (tRet (tOp rCat (tOp rCat (tVar 2) (tLc (iList K (tVar 1)) (gName 3) tYes (tTup (tCons (tVar 3) (tCons (tC (.int 2)) tNil))) [3])) (tLc (iList K (tVar 1)) (gName 3) tYes (tTup (tCons (tC (.int 2)) (tCons (tVar 3) tNil))) [3])))))
def t_l_great (K : PySem.W.Frag) : TS := (tRet (tLst (tCons (tTup (tCons (tC (.int 2)) (tCons (tC (.int 5)) tNil))) (tCons (tTup (tCons (tC (.int 5)) (tCons (tC (.int 2)) tNil))) (tCons (tTup (tCons (tC (.int 4)) (tCons (tC (.int 3)) tNil))) (tCons (tTup (tCons (tC (.int 6)) (tCons (tOp oAdd (tC (.int 2)) (tOp oMod (tVar 0) (tC (.int 5)))) tNil))) (tCons (tTup (tCons (tC (.int 6)) (tCons (tC (.int 6)) tNil))) tNil)))))))
def t_l_no_cells (K : PySem.W.Frag) : TS := (tSeq (tAsg (tLst (tCons (tC .non) (tCons (tUn oNeg (tC (.int 1))) (tCons (tOp oSub (tUn oNeg (tC (.int 1))) (tVar 0)) (tCons (tC (.int 6)) (tCons (tOp oAdd (tC (.int 6)) (tVar 0)) (tCons (tC (.bl true)) (tCons (tC (.bl false)) (tCons (tC (.str "1")) (tCons (tLst (tCons (tC (.int 1)) tNil)) (tCons (tTup (tCons (tC (.int 1)) tNil)) tNil))))))))))) (gName 1))
      (tSeq (tAsg (tLst (tCons (tC .non) (tCons (tTup tNil) (tCons (tTup (tCons (tC (.int 0)) (tCons (tC (.int 1)) tNil))) (tCons (tC (.str "01")) (tCons (tC (.int 5)) (tCons tDNewK (tCons (tLst tNil) (tCons (tLst (tCons (tC (.int 1)) (tCons (tC (.int 0)) tNil))) (tCons (tLst (tCons (tC (.int 0)) (tCons (tC (.int 0)) tNil))) (tCons (tLst (tCons (tC (.int 2)) (tCons (tC (.int 2)) (tCons (tC (.int 3)) tNil)))) tNil))))))))))) (gName 2))
      (tRet (tOp rCat (tOp rCat (tVar 2) (tLc (iList K (tVar 1)) (gName 3) tYes (tLst (tCons (tVar 3) tNil)) [3])) (tLc (iList K (tVar 1)) (gName 3) tYes (tLst (tCons (tC (.int 0)) (tCons (tVar 3) tNil))) [3])))))
def t_l_no_clues (K : PySem.W.Frag) : TS := (tSeq (tAsg (tLst (tCons (tC .non) (tCons (tUn oNeg (tC (.int 2))) (tCons (tOp oSub (tUn oNeg (tC (.int 2))) (tVar 0)) (tCons (tC (.int 5)) (tCons (tOp oAdd (tC (.int 5)) (tVar 0)) (tCons (tC (.bl true)) (tCons (tC (.bl false)) (tCons (tC (.str "1")) (tCons (tLst (tCons (tC (.int 1)) tNil)) (tCons (tTup (tCons (tC (.int 1)) tNil)) tNil))))))))))) (gName 1))
      (tSeq (tAsg (tLst (tCons (tC .non) (tCons (tTup tNil) (tCons (tTup (tCons (tLst (tCons (tC (.int 1)) tNil)) tNil)) (tCons (tC (.str "1")) (tCons (tC (.int 5)) (tCons tDNewK (tCons (tLst tNil) (tCons (tLst (tCons (tLst tNil) tNil)) (tCons (tLst (tCons (tLst tNil) (tCons (tLst tNil) tNil))) (tCons (tLst (tCons (tLst (tCons (tC (.int 1)) tNil)) (tCons (tLst (tCons (tC (.int 1)) (tCons (tC (.int 2)) tNil))) tNil))) (tCons (tLst (tCons (tOp rRep (tLst (tCons (tC (.int 0)) tNil)) (tC (.int 10))) tNil)) (tCons (tOp rRep (tLst (tCons (tOp rRep (tLst (tCons (tC (.int 0)) tNil)) (tC (.int 4))) tNil)) (tC (.int 3))) (tCons (tOp rRep (tLst (tCons (tLst (tCons (tC (.int 0)) tNil)) tNil)) (tC (.int 7))) tNil)))))))))))))) (gName 2))
      (tSeq (tAsg (tOp rCat (tVar 2) (tLst (tCons (tLst (tCons (tOp rRep (tLst (tCons (tC (.int 0)) tNil)) (tC (.int 7))) tNil)) (tCons (tLst (tCons (tLst (tCons (tC (.int 1)) tNil)) (tCons (tC .non) tNil))) (tCons (tLst (tCons (tTup (tCons (tC (.int 1)) (tCons (tC (.int 2)) tNil))) tNil)) (tCons (tLst (tCons (tLst (tCons (tC (.int 0)) (tCons (tC (.int 0)) tNil))) (tCons (tLst (tCons (tC (.int 0)) tNil)) tNil))) (tCons (tLst (tCons (tOp rRep (tLst (tCons (tC (.int 0)) tNil)) (tOp oAdd (tC (.int 10)) (tOp oMod (tVar 0) (tC (.int 9))))) tNil)) tNil))))))) (gName 2))
      (tRet (tOp rCat (tOp rCat (tVar 2) (tLc (iList K (tVar 1)) (gName 3) tYes (tLst (tCons (tLst (tCons (tVar 3) tNil)) tNil)) [3])) (tLc (iList K (tVar 1)) (gName 3) tYes (tLst (tCons (tLst (tCons (tC (.int 0)) (tCons (tC (.int 1)) tNil))) (tCons (tLst (tCons (tVar 3) (tCons (tC (.int 2)) tNil))) tNil))) [3]))))))
section
variable {K : PySem.W.Frag} {σ : L2.St} {H : Hp} {te tl : TE}
theorem range_dim {x : V} (h : inRange 1 6 x = false) : badDim x := fun n hn => by
  subst hn
  intro z
  have : (decide (1 ≤ n) && decide (n ≤ 6)) = false := h
  simp at this
  omega
theorem range_cell {x : V} (h : inRange 0 5 x = false) : inCells 6 x = false := by
  cases x with
  | int n =>
    have : (decide (0 ≤ n) && decide (n ≤ 5)) = false := h
    show (decide (0 ≤ n) && decide (n < 6)) = false
    rw [Bool.eq_false_iff] at this ⊢
    intro z
    apply this
    simp at z ⊢
    omega
  | _ => rfl
/-- a comprehension over bad things, told by what a new object is -/
theorem ep_lcBad {R : V → Hp → V → Hp → Prop} {P P' : Hp → V → Prop} {j n : Nat} {vs : List Nat} (m : Mono P) (st : ∀ x, Stab (R x)) (h : EvP tl σ H (fun _ v H2 => InAll P n H2 v)) (hz : n ≤ 1000) (hw : ∀ x, wipe ((wipe σ vs).set j (some x)) vs = wipe σ vs)
    (he : ∀ x H1, Ex H H1 → EvP te ((wipe σ vs).set j (some x)) H1 (R x)) (hP : ∀ {x H1 y H2}, P H2 x → R x H1 y H2 → P' H2 y) :
    EvP (tLc (iList K tl) (gName j) tYes te vs) σ H (fun _ v H2 => InAll P' n H2 v) := fun H0 e Q q => by
  refine h H0 e _ fun u H1 e1 hu => ?_
  obtain ⟨p, xs, rfl, h1, h2, h3⟩ := hu
  have := ep_lcX (K := K) (tl := tC (.ref p)) (te := te) (σ := σ) (H := H1) (R := R) (j := j) (vs := vs) (xs := xs) st (es_of ev_c (sq_of h1)) (by omega) hw (fun x _ H2 e2 => he x H2 ((e.trans e1).trans e2))
  exact this H1 (Ex.refl H1) _ fun v H2 e2 hv => by
    obtain ⟨r, ys, rfl, r1, r2⟩ := hv
    refine q _ H2 (e1.trans e2) ⟨r, ys, rfl, r1, by rw [Paired.length r2, h2], fun y hy => ?_⟩
    obtain ⟨i, hi⟩ := List.getElem?_of_mem hy
    obtain ⟨x, hx, hr⟩ := paired_get r2 hi
    exact hP (m _ _ _ e2 (h3 x (List.mem_of_getElem? hx))) hr
theorem kn_non : Known K H .non "NoneType" := ⟨.base .non, by decide⟩
theorem kn_str (x : Str) : Known K H (.str x) "str" := ⟨.base (.str x), by decide⟩
theorem kn_dic {a : Addr} (h : H a = some (.dK [])) : Known K H (.ref a) "dict" := ⟨.base (.dK h), by decide⟩
theorem kn_lst {a : Addr} {xs : List V} (h : SqL K H a xs) : Known K H (.ref a) "list" := ⟨ty_list h, by decide⟩
theorem kn_tup {a : Addr} {xs : List V} (h : SqT K H a xs) : Known K H (.ref a) "tuple" := ⟨ty_tuple h, by decide⟩
theorem known_ints (ns : List Int) : ∀ x ∈ ns.map V.int, ∃ n, Known K H x n := fun x hx => by
  obtain ⟨i, _, rfl⟩ := List.mem_map.mp hx
  exact ⟨_, known_int i⟩
theorem badG_tup {ns : List Int} (hn : ns.length ≤ 1000) (h2 : ns.length ≠ 2) (H2 : Hp) (a : Addr) (h : SqT K H2 a (ns.map V.int)) : BadG K H2 (.ref a) := .inr ⟨a, _, rfl, h, by rw [List.length_map]; exact hn, known_ints ns, .inl (by rw [List.length_map]; exact h2)⟩
end
theorem pure_l_no_grids {K : PySem.W.Frag} {vs : List V} {H : Hp} {Q : VK} {E : XK} {D : Ends} (hD : D.rt = Q) {N : List Str} (hN : N.length = 4) (h : sp_l_no_grids K vs H Q E) : t_l_no_grids K D (start N vs) H := by
  obtain ⟨c, rfl, hc, q⟩ := h
  subst hD
  rw [start_eq hN]
  change t_l_no_grids K D [some (.int c), none, none, none] H
  have m := BadE.mono (K := K) (lo := 1) (hi := 6)
  refine q_asgP (i := 1) (ep_lstAll (P := BadE K 1 6) (n := 11) m (eax_cons m (ep_pure ev_c fun H2 => bad_non H2) (eax_cons m (ep_pure ev_c fun H2 => bad_int H2 (by decide)) (eax_cons m (ep_pure (ev_un ev_c ru_neg) fun H2 => bad_int H2 (by decide)) (eax_cons m (ep_pure (v := .int (-1 - c)) (ev_op (x := .int (-1)) (y := .int c) (ev_un ev_c ru_neg) (ev_var rfl) rv_I0) fun H2 => bad_int H2 (by omega)) (eax_cons m (ep_pure ev_c fun H2 => bad_int H2 (by decide)) (eax_cons m (ep_pure (v := .int (7 + c)) (ev_op (x := .int 7) (y := .int c) ev_c (ev_var rfl) rv_I0) fun H2 => bad_int H2 (by omega)) (eax_cons m (ep_pure ev_c fun H2 => bad_bl H2 true) (eax_cons m (ep_pure ev_c fun H2 => bad_bl H2 false) (eax_cons m (ep_pure ev_c fun H2 => bad_str H2 (by decide +kernel)) (eax_cons m (ep_lstB (K := K) (el_lst (ea_cons ev_c ea_nil) (by simp)) fun H2 a h => bad_lst H2 a h) (eax_cons m (ep_tupB (K := K) (eu_tup (ea_cons ev_c ea_nil) (by simp)) fun H2 a h => bad_tup H2 a h) eax_nil))))))))))) (by decide)) fun v H1 e1 hv => ?_
  have g := Bad07.mono (K := K) 0
  refine q_asgP (i := 2) (ep_lstAll (P := Bad07 K 0) (n := 8) g (eax_cons g (ep_pure ev_c fun H2 => .inl ⟨_, kn_non, by decide⟩) (eax_cons g (ep_pure ev_c fun H2 => .inl ⟨_, known_int 5, by decide⟩) (eax_cons g (ep_tupB (K := K) (eu_tup ea_nil (by simp)) (badG_tup (K := K) (ns := []) (by simp) (by simp))) (eax_cons g (ep_tupB (K := K) (eu_tup (ea_cons ev_c ea_nil) (by simp)) (badG_tup (K := K) (ns := [3]) (by simp) (by simp))) (eax_cons g (ep_tupB (K := K) (eu_tup (ea_cons ev_c (ea_cons ev_c (ea_cons ev_c ea_nil))) (by simp)) (badG_tup (K := K) (ns := [2, 2, 2]) (by simp) (by simp))) (eax_cons g (ep_lstB (K := K) (el_lst (ea_cons ev_c (ea_cons ev_c ea_nil)) (by simp)) fun H2 a h => .inl ⟨_, kn_lst h, by decide⟩) (eax_cons g (ep_pure ev_c fun H2 => .inl ⟨_, kn_str _, by decide⟩) (eax_cons g (ep_dicB fun H2 a h => .inl ⟨_, kn_dic h, by decide⟩) eax_nil)))))))) (by decide)) fun u H2 e2 hu => ?_
  have bad : EvP (tVar 1) [some (.int c), some v, some u, none] H2 (fun _ v H3 => InAll (BadE K 1 6) 11 H3 v) := fun H3 e3 Q' q' => (ev_var (H := H2) (i := 1) (v := v) rfl) H3 e3 _ fun H4 e4 => q' _ H4 e4 (InAll.mono m _ _ _ ((e2.trans e3).trans e4) hv)
  have fnd : EvP (tVar 2) [some (.int c), some v, some u, none] H2 (fun _ v H3 => InAll (Bad07 K 0) 8 H3 v) := fun H3 e3 Q' q' => (ev_var (H := H2) (i := 2) (v := u) rfl) H3 e3 _ fun H4 e4 => q' _ H4 e4 (InAll.mono g _ _ _ (e3.trans e4) hu)
  have one := ep_lcBad (K := K) (R := fun x => NewU [x, .int 2]) (P := BadE K 1 6) (P' := Bad07 K 0) (j := 3) (vs := [3]) (te := tTup (tCons (tVar 3) (tCons (tC (.int 2)) tNil))) m (fun x => stab_U _) bad (by decide) (fun _ => rfl) (fun x H3 e3 => ep_U (eu_tup (ea_cons (ev_var rfl) (ea_cons ev_c ea_nil)) (by simp))) (fun {x H1 y H2} hx hr => by
    obtain ⟨r, rfl, _, h⟩ := hr
    refine .inr ⟨r, _, rfl, st_of h, by simp, fun z hz => ?_, .inr ⟨x, by simp, range_dim hx.2.2⟩⟩
    simp only [List.mem_cons, List.not_mem_nil, or_false] at hz
    rcases hz with rfl | rfl
    · exact hx.1
    · exact ⟨_, known_int 2⟩)
  have two := ep_lcBad (K := K) (R := fun x => NewU [.int 2, x]) (P := BadE K 1 6) (P' := Bad07 K 0) (j := 3) (vs := [3]) (te := tTup (tCons (tC (.int 2)) (tCons (tVar 3) tNil))) m (fun x => stab_U _) bad (by decide) (fun _ => rfl) (fun x H3 e3 => ep_U (eu_tup (ea_cons ev_c (ea_cons (ev_var rfl) ea_nil)) (by simp))) (fun {x H1 y H2} hx hr => by
    obtain ⟨r, rfl, _, h⟩ := hr
    refine .inr ⟨r, _, rfl, st_of h, by simp, fun z hz => ?_, .inr ⟨x, by simp, range_dim hx.2.2⟩⟩
    simp only [List.mem_cons, List.not_mem_nil, or_false] at hz
    rcases hz with rfl | rfl
    · exact ⟨_, known_int 2⟩
    · exact hx.1)
  exact s_retP (ep_catAll g (ep_catAll g fnd one (by decide)) two (by decide)) fun v H3 e3 z => q v H3 ((e1.trans e2).trans e3) z
theorem pure_l_great {K : PySem.W.Frag} {vs : List V} {H : Hp} {Q : VK} {E : XK} {D : Ends} (hD : D.rt = Q) {N : List Str} (hN : N.length = 1) (h : sp_l_great K vs H Q E) : t_l_great K D (start N vs) H := by
  obtain ⟨c, rfl, hc, q⟩ := h
  subst hD
  rw [start_eq hN]
  change t_l_great K D [some (.int c)] H
  have g := Bad07.mono (K := K) 1
  have gt : ∀ (a b : Nat), GOk a b → 9 < a * b → ∀ (H2 : Hp) (p : Addr), SqT K H2 p [.int (a : Int), .int (b : Int)] → Bad07 K 1 H2 (.ref p) := fun a b gk h9 H2 p h => ⟨p, a, b, rfl, h, gk, h9⟩
  have c5 : 0 ≤ c % 5 ∧ c % 5 < 5 := by omega
  obtain ⟨k, hk⟩ : ∃ k : Nat, c % 5 = (k : Int) := ⟨(c % 5).toNat, (Int.toNat_of_nonneg c5.1).symm⟩
  have k5 : k < 5 := by omega
  refine s_retP (ep_lstAll (P := Bad07 K 1) (n := 5) g (eax_cons g (ep_tupB (K := K) (eu_tup (ea_cons ev_c (ea_cons ev_c ea_nil)) (by simp)) (gt 2 5 ⟨by decide, by decide, by decide, by decide⟩ (by decide))) (eax_cons g (ep_tupB (K := K) (eu_tup (ea_cons ev_c (ea_cons ev_c ea_nil)) (by simp)) (gt 5 2 ⟨by decide, by decide, by decide, by decide⟩ (by decide))) (eax_cons g (ep_tupB (K := K) (eu_tup (ea_cons ev_c (ea_cons ev_c ea_nil)) (by simp)) (gt 4 3 ⟨by decide, by decide, by decide, by decide⟩ (by decide))) (eax_cons g (ep_tupB (K := K) (xs := [.int ((6 : Nat) : Int), .int ((2 + k : Nat) : Int)]) (eu_tup (ea_cons ev_c (ea_cons (ev_is (ev_op (x := .int 2) (y := .int (c % 5)) ev_c (ev_op (x := .int c) (y := .int 5) (ev_var rfl) ev_c (rv_I (by decide))) rv_I0) (by show V.int (2 + c % 5) = V.int ((2 + k : Nat) : Int); congr 1; omega)) ea_nil)) (by simp)) (gt 6 (2 + k) ⟨by decide, by decide, by omega, by omega⟩ (by omega))) (eax_cons g (ep_tupB (K := K) (eu_tup (ea_cons ev_c (ea_cons ev_c ea_nil)) (by simp)) (gt 6 6 ⟨by decide, by decide, by decide, by decide⟩ (by decide))) eax_nil))))) (by decide)) fun v H3 e3 z => q v H3 e3 z

/-! ### no cells, no clues (k07) -/
section
variable {K : PySem.W.Frag} {σ : L2.St} {H : Hp} {ta tb te ti : TE}
theorem badC_ints {ns : List Int} (hl : ns.length ≤ 1000) (hr : ¬ Rising ns) (H2 : Hp) (a : Addr) (h : SqL K H2 a (ns.map V.int)) : Bad07 K 2 H2 (.ref a) := by
  have dp := dp_ints h
  unfold dI at dp
  cases dp with
  | lst hs ha => exact .inr ⟨a, _, _, rfl, h, by
      have : DpAll K H2 (ns.map V.int) (ns.map PyData.int) := dpAll_intsN ns
      exact this, shaped_ints ns, by rw [List.length_map]; exact hl, .inr (.inr ⟨ns, rfl, hr⟩)⟩
where dpAll_intsN : ∀ ns : List Int, DpAll K H2 (ns.map V.int) (ns.map PyData.int)
  | [] => .nil
  | n :: r => .cons (.int n) (dpAll_intsN r)
theorem badC_nil (H2 : Hp) (a : Addr) (h : SqL K H2 a []) : Bad07 K 2 H2 (.ref a) := .inr ⟨a, [], [], rfl, h, .nil, shaped_nil, by simp, .inl rfl⟩
theorem lay1 {d : PyData} (h1 : PyData.canLay0 d = true) (h2 : d.depth ≤ 1) : SeqAt.shaped (.list [d]) = true := shaped_of_len (by simp [PyData.canLayAll0, h1]) (by simp [PyData.depthAll]; omega)
theorem lay2 {d : PyData} (h1 : PyData.canLay0 d = true) (h2 : d.depth ≤ 1) : SeqAt.shaped (.list [.int 0, d]) = true := shaped_of_len (by simp [PyData.canLayAll0, h1, PyData.canLay0]) (by simp [PyData.depthAll, PyData.depth]; omega)
theorem rep_flatN {α : Type} (w : Nat) (x : α) : (List.replicate w [x]).flatten = List.replicate w x := by
  induction w with
  | zero => rfl
  | succ w ih => rw [List.replicate_succ, List.flatten_cons, ih]; rfl
theorem dpAll_repN {v : V} {d : PyData} (h : Dp K H v d) : ∀ n, DpAll K H (List.replicate n v) (List.replicate n d)
  | 0 => .nil
  | n + 1 => .cons h (dpAll_repN h n)
/-- [row] * n -/
theorem ed_repL {ns : List Int} {n : Nat} (hi : EvL ti σ H (ns.map V.int)) (hh : Ev tb σ H (.int (n : Int))) (h1 : n ≤ 90) : EvD K (tOp rRep (tLst (tCons ti tNil)) tb) σ H (dII (List.replicate n ns)) := fun H0 e Q q => by
  refine hi H0 e _ fun p H1 hp e1 hp1 => ⟨sz_of (by simp), fun r hr => ?_⟩
  refine hh _ (e.trans (e1.trans (Ex.new hr))) _ fun H2 e2 => ⟨r, (n : Int), [.ref p], rfl, rfl, e2 _ _ upd_same, by omega, by omega, sz_of (by rw [Int.toNat_natCast]; simp; omega), fun l hl => ?_⟩
  rw [Int.toNat_natCast]
  have e3 : Ex H1 (upd H2 l (.lst (List.replicate n [V.ref p]).flatten)) := ((Ex.new hr).trans e2).trans (Ex.new hl)
  refine q _ _ (e1.trans e3) (.lst (sq_of upd_same) ?_)
  have dp : Dp K (upd H2 l (.lst (List.replicate n [V.ref p]).flatten)) (.ref p) (dI ns) := dp_ints (sq_of (e3 _ _ hp1))
  generalize upd H2 l (.lst (List.replicate n [V.ref p]).flatten) = H3 at *
  rw [rep_flatN, List.map_replicate]
  exact dpAll_repN dp n
/-- [0] * n -/
theorem el_rep0 {n : Nat} (hb : Ev tb σ H (.int (n : Int))) (hn : n ≤ 90) : EvL (tOp rRep (tLst (tCons (tC (.int 0)) tNil)) tb) σ H ((List.replicate n (0 : Int)).map V.int) := by
  have := el_rep (n := n) (xs := [V.int 0]) (ta := tLst (tCons (tC (.int 0)) tNil)) (el_lst (ea_cons ev_c ea_nil) (by simp)) hb (by omega) (by simp)
  rw [rep_flatN] at this
  rw [List.map_replicate]
  exact this
theorem rowIs_dp {v : V} {ns : List Int} (hl : ns.length ≤ 1000) (h : Dp K H v (dI ns)) : RowIs K H v (.row (ns.map V.int)) := by
  obtain ⟨r, rfl, hr⟩ := row_of_dp h
  exact ⟨r, rfl, hr, by rw [List.length_map]; exact hl, known_ints ns⟩
theorem rowsIs_dp : ∀ {vs : List V} {nss : List (List Int)}, (∀ ns ∈ nss, ns.length ≤ 1000) → DpAll K H vs (nss.map dI) → Paired (RowIs K H) vs (rowsOf nss)
  | [], [], _, .nil => .nil
  | _ :: _, ns :: r, hl, .cons h hs => .cons (rowIs_dp (hl ns List.mem_cons_self) h) (rowsIs_dp (fun x hx => hl x (List.mem_cons_of_mem _ hx)) hs)
theorem badCl_rows {nss : List (List Int)} (hl : ∀ ns ∈ nss, ns.length ≤ 1000) (hn : nss.length ≤ 1000) (hc : cluesChk (rowsOf nss) = false) (H2 : Hp) (v : V) (h : Dp K H2 v (dII nss)) : Bad07 K 3 H2 v := by
  unfold dII at h
  cases h with
  | lst hs ha => exact .inr ⟨_, _, _, rfl, hs, by rw [dpAll_len ha, List.length_map]; exact hn, rowsIs_dp hl ha, hc⟩
end
theorem pure_l_no_cells {K : PySem.W.Frag} {vs : List V} {H : Hp} {Q : VK} {E : XK} {D : Ends} (hD : D.rt = Q) {N : List Str} (hN : N.length = 4) (h : sp_l_no_cells K vs H Q E) : t_l_no_cells K D (start N vs) H := by
  obtain ⟨c, rfl, hc, q⟩ := h
  subst hD
  rw [start_eq hN]
  change t_l_no_cells K D [some (.int c), none, none, none] H
  have m := BadE.mono (K := K) (lo := 0) (hi := 5)
  refine q_asgP (i := 1) (ep_lstAll (P := BadE K 0 5) (n := 10) m (eax_cons m (ep_pure ev_c fun H2 => bad_non H2) (eax_cons m (ep_pure (ev_un ev_c ru_neg) fun H2 => bad_int H2 (by decide)) (eax_cons m (ep_pure (v := .int (-1 - c)) (ev_op (x := .int (-1)) (y := .int c) (ev_un ev_c ru_neg) (ev_var rfl) rv_I0) fun H2 => bad_int H2 (by omega)) (eax_cons m (ep_pure ev_c fun H2 => bad_int H2 (by decide)) (eax_cons m (ep_pure (v := .int (6 + c)) (ev_op (x := .int 6) (y := .int c) ev_c (ev_var rfl) rv_I0) fun H2 => bad_int H2 (by omega)) (eax_cons m (ep_pure ev_c fun H2 => bad_bl H2 true) (eax_cons m (ep_pure ev_c fun H2 => bad_bl H2 false) (eax_cons m (ep_pure ev_c fun H2 => bad_str H2 (by decide +kernel)) (eax_cons m (ep_lstB (K := K) (el_lst (ea_cons ev_c ea_nil) (by simp)) fun H2 a h => bad_lst H2 a h) (eax_cons m (ep_tupB (K := K) (eu_tup (ea_cons ev_c ea_nil) (by simp)) fun H2 a h => bad_tup H2 a h) eax_nil)))))))))) (by decide)) fun v H1 e1 hv => ?_
  have g := Bad07.mono (K := K) 2
  refine q_asgP (i := 2) (ep_lstAll (P := Bad07 K 2) (n := 10) g (eax_cons g (ep_pure ev_c fun H2 => .inl ⟨_, kn_non, by decide⟩) (eax_cons g (ep_tupB (K := K) (eu_tup ea_nil (by simp)) fun H2 a h => .inl ⟨_, kn_tup h, by decide⟩) (eax_cons g (ep_tupB (K := K) (eu_tup (ea_cons ev_c (ea_cons ev_c ea_nil)) (by simp)) fun H2 a h => .inl ⟨_, kn_tup h, by decide⟩) (eax_cons g (ep_pure ev_c fun H2 => .inl ⟨_, kn_str _, by decide⟩) (eax_cons g (ep_pure ev_c fun H2 => .inl ⟨_, known_int 5, by decide⟩) (eax_cons g (ep_dicB fun H2 a h => .inl ⟨_, kn_dic h, by decide⟩) (eax_cons g (ep_lstB (K := K) (el_lst ea_nil (by simp)) badC_nil) (eax_cons g (ep_lstB (K := K) (el_lst (ea_cons ev_c (ea_cons ev_c ea_nil)) (by simp)) (badC_ints (K := K) (ns := [1, 0]) (by simp) (by unfold Rising; decide))) (eax_cons g (ep_lstB (K := K) (el_lst (ea_cons ev_c (ea_cons ev_c ea_nil)) (by simp)) (badC_ints (K := K) (ns := [0, 0]) (by simp) (by unfold Rising; decide))) (eax_cons g (ep_lstB (K := K) (el_lst (ea_cons ev_c (ea_cons ev_c (ea_cons ev_c ea_nil))) (by simp)) (badC_ints (K := K) (ns := [2, 2, 3]) (by simp) (by unfold Rising; decide))) eax_nil)))))))))) (by decide)) fun u H2 e2 hu => ?_
  have bad : EvP (tVar 1) [some (.int c), some v, some u, none] H2 (fun _ v H3 => InAll (BadE K 0 5) 10 H3 v) := fun H3 e3 Q' q' => (ev_var (H := H2) (i := 1) (v := v) rfl) H3 e3 _ fun H4 e4 => q' _ H4 e4 (InAll.mono m _ _ _ ((e2.trans e3).trans e4) hv)
  have fnd : EvP (tVar 2) [some (.int c), some v, some u, none] H2 (fun _ v H3 => InAll (Bad07 K 2) 10 H3 v) := fun H3 e3 Q' q' => (ev_var (H := H2) (i := 2) (v := u) rfl) H3 e3 _ fun H4 e4 => q' _ H4 e4 (InAll.mono g _ _ _ (e3.trans e4) hu)
  have one := ep_lcBad (K := K) (R := fun x => NewL [x]) (P := BadE K 0 5) (P' := Bad07 K 2) (j := 3) (vs := [3]) (te := tLst (tCons (tVar 3) tNil)) m (fun x => stab_L _) bad (by decide) (fun _ => rfl) (fun x H3 e3 => ep_L (el_lst (ea_cons (ev_var rfl) ea_nil) (by simp))) (fun {x H1 y H2} hx hr => by
    obtain ⟨r, rfl, _, h⟩ := hr
    obtain ⟨d, h1, h2, h3⟩ := hx.2.1
    exact .inr ⟨r, _, [d], rfl, sq_of h, .cons h1 .nil, lay1 h2 h3, by simp, .inr (.inl (by simp [range_cell hx.2.2]))⟩)
  have two := ep_lcBad (K := K) (R := fun x => NewL [.int 0, x]) (P := BadE K 0 5) (P' := Bad07 K 2) (j := 3) (vs := [3]) (te := tLst (tCons (tC (.int 0)) (tCons (tVar 3) tNil))) m (fun x => stab_L _) bad (by decide) (fun _ => rfl) (fun x H3 e3 => ep_L (el_lst (ea_cons ev_c (ea_cons (ev_var rfl) ea_nil)) (by simp))) (fun {x H1 y H2} hx hr => by
    obtain ⟨r, rfl, _, h⟩ := hr
    obtain ⟨d, h1, h2, h3⟩ := hx.2.1
    exact .inr ⟨r, _, [.int 0, d], rfl, sq_of h, .cons (.int 0) (.cons h1 .nil), lay2 h2 h3, by simp, .inr (.inl (by simp [range_cell hx.2.2]))⟩)
  exact s_retP (ep_catAll g (ep_catAll g fnd one (by decide)) two (by decide)) fun v H3 e3 z => q v H3 ((e1.trans e2).trans e3) z
theorem chk_wide {k : Nat} (h : 6 < k) : cluesChk (rowsOf [List.replicate k (0 : Int)]) = false := by
  have e : (decide (((rowsOf [List.replicate k (0 : Int)]).headD .other).len ≤ 6)) = false := decide_eq_false (by
    show ¬ ((List.replicate k (0 : Int)).map V.int).length ≤ 6
    rw [List.length_map, List.length_replicate]
    omega)
  unfold cluesChk
  rw [e]
  simp
theorem pure_l_no_clues {K : PySem.W.Frag} {vs : List V} {H : Hp} {Q : VK} {E : XK} {D : Ends} (hD : D.rt = Q) {N : List Str} (hN : N.length = 4) (h : sp_l_no_clues K vs H Q E) : t_l_no_clues K D (start N vs) H := by
  obtain ⟨c, rfl, hc, q⟩ := h
  subst hD
  rw [start_eq hN]
  change t_l_no_clues K D [some (.int c), none, none, none] H
  have m := BadE.mono (K := K) (lo := -1) (hi := 4)
  refine q_asgP (i := 1) (ep_lstAll (P := BadE K (-1) 4) (n := 10) m (eax_cons m (ep_pure ev_c fun H2 => bad_non H2) (eax_cons m (ep_pure (ev_un ev_c ru_neg) fun H2 => bad_int H2 (by decide)) (eax_cons m (ep_pure (v := .int (-2 - c)) (ev_op (x := .int (-2)) (y := .int c) (ev_un ev_c ru_neg) (ev_var rfl) rv_I0) fun H2 => bad_int H2 (by omega)) (eax_cons m (ep_pure ev_c fun H2 => bad_int H2 (by decide)) (eax_cons m (ep_pure (v := .int (5 + c)) (ev_op (x := .int 5) (y := .int c) ev_c (ev_var rfl) rv_I0) fun H2 => bad_int H2 (by omega)) (eax_cons m (ep_pure ev_c fun H2 => bad_bl H2 true) (eax_cons m (ep_pure ev_c fun H2 => bad_bl H2 false) (eax_cons m (ep_pure ev_c fun H2 => bad_str H2 (by decide +kernel)) (eax_cons m (ep_lstB (K := K) (el_lst (ea_cons ev_c ea_nil) (by simp)) fun H2 a h => bad_lst H2 a h) (eax_cons m (ep_tupB (K := K) (eu_tup (ea_cons ev_c ea_nil) (by simp)) fun H2 a h => bad_tup H2 a h) eax_nil)))))))))) (by decide)) fun v H1 e1 hv => ?_
  have g := Bad07.mono (K := K) 3
  have row : ∀ {σ : L2.St} {H : Hp} {ta : TA} {ns : List Int}, EvA ta σ H (ns.map V.int) → ns.length ≤ 1000 → EvD K (tLst ta) σ H (dI ns) := fun ha hl => ed_ints (es_new (el_lst ha (by rw [List.length_map]; omega)))
  have rows : ∀ {σ : L2.St} {H : Hp} {te : TE} (nss : List (List Int)), EvD K te σ H (dII nss) → (∀ ns ∈ nss, ns.length ≤ 1000) → nss.length ≤ 1000 → cluesChk (rowsOf nss) = false → EvP te σ H (fun _ v H2 => Bad07 K 3 H2 v) := fun nss h hl hn hc => ep_datB h (badCl_rows hl hn hc)
  refine q_asgP (i := 2) (ep_lstAll (P := Bad07 K 3) (n := 13) g (eax_cons g (ep_pure ev_c fun H2 => .inl ⟨_, kn_non, by decide⟩) (eax_cons g (ep_tupB (K := K) (eu_tup ea_nil (by simp)) fun H2 a h => .inl ⟨_, kn_tup h, by decide⟩)
    (eax_cons g (ep_datB (K := K) (ed_tup (ead_cons (row (ns := [1]) (ea_cons ev_c ea_nil) (by simp)) ead_nil) (by simp)) fun H2 v h => by
      cases h with
      | tup hs _ => exact .inl ⟨_, kn_tup hs, by decide⟩)
    (eax_cons g (ep_pure ev_c fun H2 => .inl ⟨_, kn_str _, by decide⟩) (eax_cons g (ep_pure ev_c fun H2 => .inl ⟨_, known_int 5, by decide⟩) (eax_cons g (ep_dicB fun H2 a h => .inl ⟨_, kn_dic h, by decide⟩)
    (eax_cons g (rows [] (ed_lst ead_nil (by simp)) (by simp) (by simp) (by decide)) (eax_cons g (rows [[]] (ed_lst (ead_cons (row (ns := []) ea_nil (by simp)) ead_nil) (by simp)) (by simp) (by simp) (by decide)) (eax_cons g (rows [[], []] (ed_lst (ead_cons (row (ns := []) ea_nil (by simp)) (ead_cons (row (ns := []) ea_nil (by simp)) ead_nil)) (by simp)) (by simp) (by simp) (by decide))
    (eax_cons g (rows [[1], [1, 2]] (ed_lst (ead_cons (row (ns := [1]) (ea_cons ev_c ea_nil) (by simp)) (ead_cons (row (ns := [1, 2]) (ea_cons ev_c (ea_cons ev_c ea_nil)) (by simp)) ead_nil)) (by simp)) (by simp) (by simp) (by decide))
    (eax_cons g (rows [List.replicate 10 0] (ed_lst (ead_cons (ed_ints (es_new (el_rep0 (n := 10) ev_c (by decide)))) ead_nil) (by simp)) (by simp) (by simp) (chk_wide (by decide)))
    (eax_cons g (rows (List.replicate 3 (List.replicate 4 0)) (ed_repL (n := 3) (el_rep0 (n := 4) ev_c (by decide)) ev_c (by decide)) (by simp) (by simp) (by decide))
    (eax_cons g (rows (List.replicate 7 [0]) (ed_repL (n := 7) (ns := [0]) (el_lst (ea_cons ev_c ea_nil) (by simp)) ev_c (by decide)) (by simp) (by simp) (by decide)) eax_nil))))))))))))) (by decide)) fun u H2 e2 hu => ?_
  have fnd : EvP (tVar 2) [some (.int c), some v, some u, none] H2 (fun _ v H3 => InAll (Bad07 K 3) 13 H3 v) := fun H3 e3 Q' q' => (ev_var (H := H2) (i := 2) (v := u) rfl) H3 e3 _ fun H4 e4 => q' _ H4 e4 (InAll.mono g _ _ _ (e3.trans e4) hu)
  have c9 : 0 ≤ c % 9 ∧ c % 9 < 9 := by omega
  obtain ⟨k, hk⟩ : ∃ k : Nat, c % 9 = (k : Int) := ⟨(c % 9).toNat, (Int.toNat_of_nonneg c9.1).symm⟩
  have k9 : k < 9 := by omega
  refine q_asgP (i := 2) (ep_catAll g fnd (ep_lstAll (P := Bad07 K 3) (n := 5) g (eax_cons g (rows [List.replicate 7 0] (ed_lst (ead_cons (ed_ints (es_new (el_rep0 (n := 7) ev_c (by decide)))) ead_nil) (by simp)) (by simp) (by simp) (chk_wide (by decide)))
    (eax_cons g (ep_datB (K := K) (d := .list [dI [1], .none]) (ed_lst (ead_cons (row (ns := [1]) (ea_cons ev_c ea_nil) (by simp)) (ead_cons (ed_of ev_c .non) ead_nil)) (by simp)) fun H2 v h => by
      cases h with
      | lst hs ha =>
        cases ha with
        | cons h1 hr =>
          cases hr with
          | cons h2 hr =>
            cases hr
            cases h2
            exact .inr ⟨_, _, [.row [.int 1], .other], rfl, hs, by simp, .cons (rowIs_dp (ns := [1]) (by simp) h1) (.cons ⟨_, kn_non, by decide⟩ .nil), by decide⟩)
    (eax_cons g (ep_datB (K := K) (d := .list [.tuple [.int 1, .int 2]]) (ed_lst (ead_cons (ed_tup (ead_cons (ed_int ev_c) (ead_cons (ed_int ev_c) ead_nil)) (by simp)) ead_nil) (by simp)) fun H2 v h => by
      cases h with
      | lst hs ha =>
        cases ha with
        | cons h1 hr =>
          cases hr
          cases h1 with
          | tup ht _ => exact .inr ⟨_, _, [.other], rfl, hs, by simp, .cons ⟨_, kn_tup ht, by decide⟩ .nil, by decide⟩)
    (eax_cons g (rows [[0, 0], [0]] (ed_lst (ead_cons (row (ns := [0, 0]) (ea_cons ev_c (ea_cons ev_c ea_nil)) (by simp)) (ead_cons (row (ns := [0]) (ea_cons ev_c ea_nil) (by simp)) ead_nil)) (by simp)) (by simp) (by simp) (by decide))
    (eax_cons g (rows [List.replicate (10 + k) 0] (ed_lst (ead_cons (ed_ints (es_new (el_rep0 (n := 10 + k) (ev_is (ev_op (x := .int 10) (y := .int (c % 9)) ev_c (ev_op (x := .int c) (y := .int 9) (ev_var rfl) ev_c (rv_I (by decide))) rv_I0) (by show V.int (10 + c % 9) = V.int ((10 + k : Nat) : Int); congr 1; omega)) (by omega)))) ead_nil) (by simp)) (by simp; omega) (by simp) (chk_wide (by omega))) eax_nil))))) (by decide)) (by decide)) fun u' H3 e3 hu' => ?_
  have bad : EvP (tVar 1) [some (.int c), some v, some u', none] H3 (fun _ v H3 => InAll (BadE K (-1) 4) 10 H3 v) := fun H4 e4 Q' q' => (ev_var (H := H3) (i := 1) (v := v) rfl) H4 e4 _ fun H5 e5 => q' _ H5 e5 (InAll.mono m _ _ _ (((e2.trans e3).trans e4).trans e5) hv)
  have fnd' : EvP (tVar 2) [some (.int c), some v, some u', none] H3 (fun _ v H3 => InAll (Bad07 K 3) 18 H3 v) := fun H4 e4 Q' q' => (ev_var (H := H3) (i := 2) (v := u') rfl) H4 e4 _ fun H5 e5 => q' _ H5 e5 (InAll.mono g _ _ _ (e4.trans e5) hu')
  have rowX : ∀ {H2 : Hp} {r : Addr} {ys : List V}, H2 r = some (.lst ys) → ys.length ≤ 1000 → (∀ y ∈ ys, ∃ n, Known K H2 y n) → RowIs K H2 (.ref r) (.row ys) := fun h hl hk => ⟨_, rfl, sq_of h, hl, hk⟩
  have one := ep_lcBad (K := K) (R := fun x H1 v H2 => NewLL H1 v H2 [[x]]) (P := BadE K (-1) 4) (P' := Bad07 K 3) (j := 3) (vs := [3]) (te := tLst (tCons (tLst (tCons (tVar 3) tNil)) tNil)) m (fun x => stab_LL _) bad (by decide) (fun _ => rfl) (fun x H3 e3 => ep_LL1 (el_lst (ea_cons (ev_var rfl) ea_nil) (by simp))) (fun {x H1 y H2} hx hr => by
    obtain ⟨p, ps, rfl, _, h, hp⟩ := hr
    cases hp with
    | cons h1 hr =>
      cases hr
      refine .inr ⟨p, _, [.row [x]], rfl, sq_of h, by simp, .cons (rowX h1.2 (by simp) fun y hy => ?_) .nil, ?_⟩
      · have : y = x := by simpa using hy
        rw [this]
        exact hx.1
      · simp [cluesChk, Row.fine, hx.2.2])
  have two := ep_lcBad (K := K) (R := fun x H1 v H2 => NewLL H1 v H2 [[.int 0, .int 1], [x, .int 2]]) (P := BadE K (-1) 4) (P' := Bad07 K 3) (j := 3) (vs := [3]) (te := tLst (tCons (tLst (tCons (tC (.int 0)) (tCons (tC (.int 1)) tNil))) (tCons (tLst (tCons (tVar 3) (tCons (tC (.int 2)) tNil))) tNil))) m (fun x => stab_LL _) bad (by decide) (fun _ => rfl) (fun x H3 e3 => ep_LL2 (el_lst (ea_cons ev_c (ea_cons ev_c ea_nil)) (by simp)) (el_lst (ea_cons (ev_var rfl) (ea_cons ev_c ea_nil)) (by simp))) (fun {x H1 y H2} hx hr => by
    obtain ⟨p, ps, rfl, _, h, hp⟩ := hr
    cases hp with
    | cons h1 hr =>
      cases hr with
      | cons h2 hr =>
        cases hr
        refine .inr ⟨p, _, [.row [.int 0, .int 1], .row [x, .int 2]], rfl, sq_of h, by simp, .cons (rowX h1.2 (by simp) fun y hy => ?_) (.cons (rowX h2.2 (by simp) fun y hy => ?_) .nil), ?_⟩
        · exact known_ints [0, 1] y hy
        · simp only [List.mem_cons, List.not_mem_nil, or_false] at hy
          rcases hy with rfl | rfl
          · exact hx.1
          · exact ⟨_, known_int 2⟩
        · simp [cluesChk, Row.fine, hx.2.2])
  exact s_retP (ep_catAll g (ep_catAll g fnd' one (by decide)) two (by decide)) fun v H4 e4 z => q v H4 (((e1.trans e2).trans e3).trans e4) z

/-! ### the law k07 -/
def thingsOf (F : Fns) : Nat → Addr
  | 0 => F.l_no_grids
  | 1 => F.l_great
  | 2 => F.l_no_cells
  | _ => F.l_no_clues
def doorsOf : Nat → Int
  | 0 => 4
  | 1 => 1
  | 2 => 3
  | _ => 2
def manyOf : Nat → Nat
  | 0 => 30
  | 1 => 5
  | 2 => 30
  | _ => 38
theorem doors_ok (k : Nat) : 1 ≤ doorsOf k ∧ doorsOf k ≤ 4 := by
  match k with
  | 0 => decide
  | 1 => decide
  | 2 => decide
  | k + 3 => exact ⟨by show (1 : Int) ≤ 2; decide, by show (2 : Int) ≤ 4; decide⟩
theorem many_ok (k : Nat) : 1 ≤ manyOf k ∧ manyOf k ≤ 38 := by
  match k with
  | 0 => decide
  | 1 => decide
  | 2 => decide
  | k + 3 => exact ⟨by show 1 ≤ 38; decide, by show 38 ≤ 38; decide⟩
def RThings (K : PySem.W.Frag) (F : Fns) (f : Addr) (sp : Sp) : Prop := (f = F.l_no_grids ∧ sp = sp_l_no_grids K) ∨ (f = F.l_great ∧ sp = sp_l_great K) ∨ (f = F.l_no_cells ∧ sp = sp_l_no_cells K) ∨ (f = F.l_no_clues ∧ sp = sp_l_no_clues K)
section
variable {K : PySem.W.Frag} {C : Ad} {F : Fns} {σ : L2.St} {H : Hp} {ta tb tc te tl : TE}
theorem ep_things {i k : Nat} {c : Int} (hi : σ[i]? = some (some (.ref (thingsOf F k)))) (ha : Ev ta σ H (.int c)) (hc : 0 ≤ c) : EvP (tCallR i (RThings K F) (fun _ => E0) (tCons ta tNil)) σ H (fun _ v H2 => InAll (Bad07 K k) (manyOf k) H2 v) := fun H1 e Q q => by
  have go : ∀ (k n : Nat), (∀ v H2, Ex H1 H2 → InAll (Bad07 K k) n H2 v → Q v H2) → ta σ H1 (fun u H2 => ∃ c', [u] = [V.int c'] ∧ 0 ≤ c' ∧ RetP (fun _ v H3 => InAll (Bad07 K k) n H3 v) H2 Q) := fun k n hq => ha H1 e _ fun H2 e2 => ⟨c, rfl, hc, fun v H3 e3 z => hq v H3 (e2.trans e3) z⟩
  match k, hi, q with
  | 0, hi, q => exact ⟨_, _, hi, .inl ⟨rfl, rfl⟩, go 0 30 q⟩
  | 1, hi, q => exact ⟨_, _, hi, .inr (.inl ⟨rfl, rfl⟩), go 1 5 q⟩
  | 2, hi, q => exact ⟨_, _, hi, .inr (.inr (.inl ⟨rfl, rfl⟩)), go 2 30 q⟩
  | k + 3, hi, q => exact ⟨_, _, hi, .inr (.inr (.inr ⟨rfl, rfl⟩)), go 3 38 q⟩
theorem ev_refused {td : TE} {k : Nat} {d : Int} {v : V} (h1 : Ev ta σ H (.ref (askOf F k))) (h2 : Ev tb σ H (.int d)) (h3 : Ev tc σ H v) (hv : Bad07 K k H v) (h4 : Ev td σ H (.int (dueOf k))) : Ev (tCall (sp_l_refused K C F) [] E0 (tCons ta (tCons tb (tCons tc (tCons td tNil))))) σ H (.bl true) := fun H1 e Q q =>
  h1 H1 e _ fun H2 e2 => h2 H2 (e.trans e2) _ fun H3 e3 => h3 H3 ((e.trans e2).trans e3) _ fun H4 e4 => h4 H4 (((e.trans e2).trans e3).trans e4) _ fun H5 e5 => ⟨k, d, v, rfl, Bad07.mono k _ _ _ ((((e.trans e2).trans e3).trans e4).trans e5) hv, fun H6 e6 => q H6 ((((e2.trans e3).trans e4).trans e5).trans e6)⟩
/-- a def's place among the four kinds -/
def KindT (K : PySem.W.Frag) (F : Fns) (H : Hp) (v : V) : Prop := ∃ k t, k < 4 ∧ v = .ref t ∧ SqT K H t [.ref (askOf F k), .int (doorsOf k), .ref (thingsOf F k), .int (dueOf k)]
theorem KindT.mono : Mono (KindT K F) := fun H H' v e h => by
  obtain ⟨k, t, h1, rfl, h2⟩ := h
  exact ⟨k, t, h1, rfl, ex_t e h2⟩
end
theorem ev_allBad {K : PySem.W.Frag} {σ : L2.St} {H : Hp} {te tl : TE} {k n j : Nat} {vs : List Nat} (h : EvP tl σ H (fun _ v H2 => InAll (Bad07 K k) n H2 v)) (hz : n ≤ 1000) (hw : ∀ x, wipe ((wipe σ vs).set j (some x)) vs = wipe σ vs)
    (he : ∀ x H1, Ex H H1 → Bad07 K k H1 x → Ev te ((wipe σ vs).set j (some x)) H1 (.bl true)) : Ev (tCB (rAll K) (tCons (tLc (iList K tl) (gName j) tYes te vs) tNil)) σ H (.bl true) := fun H0 e Q q => by
  refine h H0 e _ fun u H1 e1 hu => ?_
  obtain ⟨p, xs, rfl, h1, h2, h3⟩ := hu
  have l := el_lc (K := K) (tl := tC (.ref p)) (te := te) (t := tYes) (σ := σ) (H := H1) (j := j) (vs := vs) (xs := xs) (fun _ => true) (fun _ => V.bl true) (es_of ev_c (sq_of h1)) (by omega) hw (fun _ _ _ _ => et_yes) (fun x H2 e2 hx _ => he x H2 ((e.trans e1).trans e2) (Bad07.mono k _ _ _ e2 (h3 x hx)))
  have al := ev_allS (K := K) (bs := (xs.filter fun _ => true).map fun _ => true) (es_new (by rw [List.map_map]; exact l))
  have : ((xs.filter fun _ => true).map fun _ => true).all id = true := by
    rw [List.all_eq_true]
    intro x hx
    obtain ⟨_, _, rfl⟩ := List.mem_map.mp hx
    rfl
  rw [this] at al
  exact al H1 (Ex.refl H1) Q fun H2 e2 => q H2 (e1.trans e2)
theorem rings16 : (allRings 1 6).length = 21 := by
  unfold allRings
  rw [List.length_mergeSort]
  decide +kernel
theorem cok_by7 {h w : Nat} {cs : List Int} (hh : (!cs.isEmpty && cs.all (fun x => decide (0 ≤ x) && decide (x < (h : Int) * w)) && decide (cs.Pairwise (· < ·))) = true) : COk h w cs := by
  simp only [Bool.and_eq_true, List.all_eq_true, decide_eq_true_eq, Bool.not_eq_true', List.isEmpty_eq_false_iff] at hh
  exact ⟨hh.1.1, hh.1.2, hh.2⟩
theorem ep_numbersS7 {K : PySem.W.Frag} {C : Ad} {σ : L2.St} {H : Hp} {ta tb : TE} {E : XK} {h w : Nat} {cs : List Int} (ha : EvST K ta σ H [.int (h : Int), .int (w : Int)]) (gk : GOk h w) (hc : EvS K tb σ H (cs.map V.int)) (ck : COk h w cs) :
    EvP (tCall (sp_numbers K C) [] E (tCons ta (tCons tb tNil))) σ H (fun H1 v H2 => NewLL H1 v H2 (ints2 (numbersOf h w cs))) := fun H1 e Q q =>
  ha H1 e _ fun g H2 e2 hg => hc H2 (e.trans e2) _ fun c H3 e3 hc3 => (ep_numbers (K := K) (C := C) (E := E) (σ := []) (H := H3) (ta := tCons (tC (.ref g)) (tCons (tC (.ref c)) tNil)) (ea_cons ev_c (ea_cons ev_c ea_nil)) (ex_t e3 hg) gk hc3 ck) H3 (Ex.refl H3) Q fun v H4 e4 z => q v H4 ((e2.trans e3).trans e4) (z.back (e2.trans e3))
def t_law (K : PySem.W.Frag) (C : Ad) (F : Fns) : TS := (tSeq (tAsg (tLst (tCons (tTup (tCons (tC (.ref F.l_with_grid)) (tCons (tC (.int 4)) (tCons (tC (.ref F.l_no_grids)) (tCons (tC (.int 0)) tNil))))) (tCons (tTup (tCons (tC (.ref F.l_with_great)) (tCons (tC (.int 1)) (tCons (tC (.ref F.l_great)) (tCons (tC (.int 0)) tNil))))) tNil))) (gName 1))
      (tSeq (tAsg (tOp rCat (tVar 1) (tLst (tCons (tTup (tCons (tC (.ref F.l_with_cells)) (tCons (tC (.int 3)) (tCons (tC (.ref F.l_no_cells)) (tCons (tC (.int 1)) tNil))))) (tCons (tTup (tCons (tC (.ref F.l_with_clues)) (tCons (tC (.int 2)) (tCons (tC (.ref F.l_no_clues)) (tCons (tC (.int 2)) tNil))))) tNil)))) (gName 1))
      (tSeq (tFor (iList K (tVar 1)) (gTup K 4 (gCons (gName 2) (gCons (gName 3) (gCons (gName 4) (gCons (gName 5) gNil))))) (tSeq (tFor (iRng1 (tCons (tVar 3) tNil)) (gName 6) (tIfS (tNot (tB (tCB (rAll K) (tCons (tLc (iList K (tCallR 4 (RThings K F) (fun _ => E0) (tCons (tCB (rLenS K) (tCons (tVar 0) tNil)) tNil))) (gName 9) tYes (tCall (sp_l_refused K C F) [] E0 (tCons (tVar 2) (tCons (tVar 6) (tCons (tVar 9) (tCons (tVar 5) tNil))))) [9]) tNil)))) (tRet (tC (.bl false))) tNext))
      (tFor (iList K (tVar 0)) (gName 7) (tSeq (tAsg (tCallR 4 (RThings K F) (fun _ => E0) (tCons (tOp oMod (tVar 7) (tOp oPow (tC (.int 10)) (tC (.int 60)))) tNil)) (gName 8))
      (tIfS (tNot (tB (tCall (sp_l_refused K C F) [] E0 (tCons (tVar 2) (tCons (tOp oMod (tVar 7) (tVar 3)) (tCons (tOp (rIxL K) (tVar 8) (tOp oMod (tOp oDiv (tVar 7) (tC (.int 7))) (tCB (rLenS K) (tCons (tVar 8) tNil)))) (tCons (tVar 5) tNil))))))) (tRet (tC (.bl false))) tNext)))))
      (tRet (tAndV (tOp rEq (tCB (rLenS K) (tCons (tCall (sp_rings K C) [] E0 (tCons (tTup (tCons (tC (.int 1)) (tCons (tC (.int 6)) tNil))) tNil)) tNil)) (tC (.int 21))) (tOp rEq (tOp (rIxL K) (tOp (rIxL K) (tCall (sp_numbers K C) [] E0 (tCons (tTup (tCons (tC (.int 6)) (tCons (tC (.int 6)) tNil))) (tCons (tLst (tCons (tC (.int 35)) tNil)) tNil))) (tC (.int 5))) (tC (.int 5))) (tC (.int 4))))))))
theorem pure_law {K : PySem.W.Frag} {C : Ad} {F : Fns} {vs : List V} {H : Hp} {Q : VK} {E : XK} {D : Ends} (hD : D.rt = Q) {N : List Str} (hN : N.length = 10) (h : sp_law K vs H Q E) : t_law K C F D (start N vs) H := by
  obtain ⟨a, ns, rfl, hn, sk, q⟩ := h
  subst hD
  rw [start_eq hN]
  change t_law K C F D [some (.ref a), none, none, none, none, none, none, none, none, none] H
  have m := KindT.mono (K := K) (F := F)
  have kd : ∀ {σ : L2.St} {H : Hp} (k : Nat), k < 4 → EvP (tTup (tCons (tC (.ref (askOf F k))) (tCons (tC (.int (doorsOf k))) (tCons (tC (.ref (thingsOf F k))) (tCons (tC (.int (dueOf k))) tNil))))) σ H (fun _ v H2 => KindT K F H2 v) := fun k hk => ep_tupB (K := K) (eu_tup (ea_cons ev_c (ea_cons ev_c (ea_cons ev_c (ea_cons ev_c ea_nil)))) (by simp)) fun H2 t h => ⟨k, t, hk, rfl, h⟩
  refine q_asgP (i := 1) (ep_lstAll (P := KindT K F) (n := 2) m (eax_cons m (kd 0 (by decide)) (eax_cons m (kd 1 (by decide)) eax_nil)) (by decide)) fun v H1 e1 hv => ?_
  have fnd : EvP (tVar 1) [some (.ref a), some v, none, none, none, none, none, none, none, none] H1 (fun _ v H3 => InAll (KindT K F) 2 H3 v) := fun H3 e3 Q' q' => (ev_var (H := H1) (i := 1) (v := v) rfl) H3 e3 _ fun H4 e4 => q' _ H4 e4 (InAll.mono m _ _ _ (e3.trans e4) hv)
  refine q_asgP (i := 1) (ep_catAll m fnd (ep_lstAll (P := KindT K F) (n := 2) m (eax_cons m (kd 2 (by decide)) (eax_cons m (kd 3 (by decide)) eax_nil)) (by decide)) (by decide)) fun u H2 e2 hu => ?_
  obtain ⟨kp, ks, rfl, k1, k2, k3⟩ := hu
  have hn2 := ex_l (e1.trans e2) hn
  refine q_forL (K := K) (a := kp) (xs := ks) (ev_var rfl) (sq_of k1) (fun i σ' H' => ∃ y2 y3 y4 y5 y6 y7 y8, σ' = [some (.ref a), some (.ref kp), y2, y3, y4, y5, y6, y7, y8, none] ∧ Ex H2 H') (fun H3 e3 => ⟨_, _, _, _, _, _, _, rfl, e3⟩) (fun i σ' H' _ hP => by
    obtain ⟨_, _, _, _, _, _, _, _, e3⟩ := hP
    exact sq_of (e3 _ _ k1)) (fun i x σ' H3 hx hP => ?_) (fun σ' H3 hP => ?_)
  · obtain ⟨y2, y3, y4, y5, y6, y7, y8, rfl, e3⟩ := hP
    obtain ⟨k, t, hk4, rfl, ht⟩ := k3 x (List.mem_of_getElem? hx)
    refine ⟨t, _, rfl, ex_t e3 ht, rfl, _, _, rfl, _, _, rfl, _, _, rfl, _, _, rfl, rfl, ?_⟩
    show tSeq _ _ _ [some (.ref a), some (.ref kp), some (.ref (askOf F k)), some (.int (doorsOf k)), some (.ref (thingsOf F k)), some (.int (dueOf k)), y6, y7, y8, none] H3
    have dk := doors_ok k
    have mk := many_ok k
    have hn3 := ex_l e3 hn2
    refine q_forR1 (j := 6) (n := doorsOf k) (ea_cons (ev_var rfl) ea_nil) ⟨by omega, by omega⟩ (fun i σ' H' => ∃ y6, σ' = [some (.ref a), some (.ref kp), some (.ref (askOf F k)), some (.int (doorsOf k)), some (.ref (thingsOf F k)), some (.int (dueOf k)), y6, y7, y8, none] ∧ Ex H3 H') (fun H4 e4 => ⟨_, rfl, e4⟩) (fun i σ' H4 hi hP => ?_) (fun σ' H4 hP => ?_)
    · obtain ⟨y6', rfl, e4⟩ := hP
      have hn4 := ex_l e4 hn3
      have th := ep_things (K := K) (F := F) (i := 4) (k := k) (σ := [some (.ref a), some (.ref kp), some (.ref (askOf F k)), some (.int (doorsOf k)), some (.ref (thingsOf F k)), some (.int (dueOf k)), some (.int (i : Int)), y7, y8, none]) (H := H4) (ta := tCB (rLenS K) (tCons (tVar 0) tNil)) (c := (ns.length : Int)) rfl (ev_is (ev_lenS (K := K) (es_of (ev_var rfl) hn4)) (by rw [List.length_map])) (by omega)
      exact s_when (b := false) (et_is (et_not (et_B (ev_allBad (K := K) (j := 9) (vs := [9]) th (by omega) (fun _ => rfl) (fun x H5 e5 hx => ev_refused (K := K) (C := C) (F := F) (k := k) (ev_var rfl) (ev_var rfl) (ev_var rfl) hx (ev_var rfl))))) rfl) (fun z => nomatch z) fun _ H5 e5 => ⟨_, rfl, e4.trans e5⟩
    · obtain ⟨y6', rfl, e4⟩ := hP
      refine s_forLn (K := K) (j := 7) (ev_var rfl) (ex_l e4 hn3) (fun i σ' H' => ∃ y7 y8, σ' = [some (.ref a), some (.ref kp), some (.ref (askOf F k)), some (.int (doorsOf k)), some (.ref (thingsOf F k)), some (.int (dueOf k)), y6', y7, y8, none] ∧ Ex H4 H') (fun H5 e5 => ⟨_, _, rfl, e5⟩) (fun i σ' H' _ hP => by
        obtain ⟨_, _, _, e5⟩ := hP
        exact ex_l (e4.trans e5) hn3) (fun i x σ' H5 hx hP => ?_) (fun σ' H5 hP => ?_)
      · obtain ⟨y7', y8', rfl, e5⟩ := hP
        rw [List.getElem?_map] at hx
        obtain ⟨c, _, rfl⟩ := Option.map_eq_some_iff.mp hx
        have th := ep_things (K := K) (F := F) (i := 4) (k := k) (σ := [some (.ref a), some (.ref kp), some (.ref (askOf F k)), some (.int (doorsOf k)), some (.ref (thingsOf F k)), some (.int (dueOf k)), y6', some (.int c), y8', none]) (H := H5) (ta := tOp oMod (tVar 7) (tOp oPow (tC (.int 10)) (tC (.int 60)))) (c := c % 10 ^ 60) rfl (ev_op (x := .int c) (y := .int (10 ^ 60)) (ev_var rfl) (ev_is (ev_op (x := .int 10) (y := .int 60) ev_c ev_c (rv_I ⟨by decide, by decide, by decide⟩)) rfl) (rv_I (by show (0 : Int) < 10 ^ 60; decide))) (Int.emod_nonneg _ (by decide))
        refine q_asgP (i := 8) th fun u H6 e6 hu => ?_
        obtain ⟨sp, xs, rfl, s1, s2, s3⟩ := hu
        have f0 := Int.emod_nonneg (c / 7) (b := (xs.length : Int)) (by omega)
        have f1 := Int.emod_lt_of_pos (c / 7) (b := (xs.length : Int)) (by omega)
        obtain ⟨j, hj⟩ : ∃ j : Nat, c / 7 % (xs.length : Int) = (j : Int) := ⟨_, (Int.toNat_of_nonneg f0).symm⟩
        rw [hj] at f1
        have jl : j < xs.length := by omega
        exact s_when (b := false) (et_is (et_not (et_B (ev_refused (K := K) (C := C) (F := F) (k := k) (d := c % doorsOf k) (v := xs[j]) (ev_var rfl) (ev_op (x := .int c) (y := .int (doorsOf k)) (ev_var rfl) (ev_var rfl) (rv_I (by show (0 : Int) < _; omega))) (ev_ixS (K := K) (i := (j : Int)) (es_of (ev_var rfl) (sq_of s1)) (ev_is (ev_op (x := .int (c / 7)) (y := .int (xs.length : Int)) (ev_op (x := .int c) (y := .int 7) (ev_var rfl) ev_c (rv_I ⟨by decide, by decide⟩)) (ev_lenS (K := K) (es_of (ev_var rfl) (sq_of s1))) (rv_I (by show (0 : Int) < _; omega))) (congrArg V.int hj)) (atI_nat (List.getElem?_eq_getElem jl))) (s3 _ (List.getElem_mem _)) (ev_var rfl)))) rfl) (fun z => nomatch z) fun _ H7 e7 => ⟨_, _, rfl, (e5.trans e6).trans e7⟩
      · obtain ⟨y7', y8', rfl, e5⟩ := hP
        exact ⟨_, _, _, _, _, _, _, rfl, (e3.trans e4).trans e5⟩
  · obtain ⟨y2, y3, y4, y5, y6, y7, y8, rfl, e3⟩ := hP
    have tup : ∀ {σ : L2.St} {H' : Hp} (x y : Int), EvST K (tTup (tCons (tC (.int x)) (tCons (tC (.int y)) tNil))) σ H' [.int x, .int y] := fun x y => est_new (eu_tup (ea_cons ev_c (ea_cons ev_c ea_nil)) (by simp))
    have rg := ep_rings (K := K) (C := C) (E := E0) (σ := [some (.ref a), some (.ref kp), y2, y3, y4, y5, y6, y7, y8, none]) (H := H3) (h := 1) (w := 6) (tup 1 6) ⟨by decide, by decide, by decide, by decide⟩ (by decide)
    have ln : Ev (tCB (rLenS K) (tCons (tCall (sp_rings K C) [] E0 (tCons (tTup (tCons (tC (.int 1)) (tCons (tC (.int 6)) tNil))) tNil)) tNil)) [some (.ref a), some (.ref kp), y2, y3, y4, y5, y6, y7, y8, none] H3 (.int 21) := fun H4 e4 Q' q' => rg H4 e4 _ fun v H5 e5 hv => by
      obtain ⟨p, rfl, _, hr⟩ := hv.rows (K := K)
      have := ev_lenRows (K := K) (σ := []) (te := tC (.ref p)) ev_c hr
      rw [rings16] at this
      exact this H5 (Ex.refl H5) Q' fun H6 e6 => q' H6 (e5.trans e6)
    have nb := ep_numbersS7 (K := K) (C := C) (E := E0) (σ := [some (.ref a), some (.ref kp), y2, y3, y4, y5, y6, y7, y8, none]) (H := H3) (h := 6) (w := 6) (cs := [35]) (tup 6 6) ⟨by decide, by decide, by decide, by decide⟩ (es_new (el_lst (ta := tCons (tC (.int 35)) tNil) (ea_cons ev_c ea_nil) (by simp))) (cok_by7 (by decide))
    have n55 : Ev (tOp (rIxL K) (tOp (rIxL K) (tCall (sp_numbers K C) [] E0 (tCons (tTup (tCons (tC (.int 6)) (tCons (tC (.int 6)) tNil))) (tCons (tLst (tCons (tC (.int 35)) tNil)) tNil))) (tC (.int 5))) (tC (.int 5))) [some (.ref a), some (.ref kp), y2, y3, y4, y5, y6, y7, y8, none] H3 (.int 4) := fun H4 e4 Q' q' => nb H4 e4 _ fun v H5 e5 hv => by
      obtain ⟨p, rfl, _, hr⟩ := hv.rows (K := K)
      obtain ⟨rs, h1, h2⟩ := hr
      have hl := Paired.length h2
      have nl : (numbersOf 6 6 [35]).length = 6 := by decide
      obtain ⟨b, hb, hf⟩ := paired_get h2 (List.getElem?_eq_getElem (l := rs) (by omega : 5 < rs.length))
      have e55 : (numbersOf 6 6 [35])[5]? = some [0, 0, 0, 0, 1, 4] := by decide
      rw [e55] at hb
      cases hb
      have v5 := ev_ixS (K := K) (σ := []) (H := H5) (i := 5) (xs := rs.map V.ref) (ta := tC (.ref p)) (tb := tC (.int 5)) (v := .ref rs[5]) (es_of ev_c h1) ev_c (atI_nat (j := 5) (by rw [List.getElem?_map, List.getElem?_eq_getElem (by omega)]; rfl))
      have v55 := ev_ixS (K := K) (σ := []) (H := H5) (i := 5) (tb := tC (.int 5)) (v := .int 4) (es_of v5 hf) ev_c (atI_nat (j := 5) rfl)
      exact v55 H5 (Ex.refl H5) Q' fun H6 e6 => q' H6 (e5.trans e6)
    exact s_ret (v := .bl true) (ev_is (ev_andV (a := true) (b := true) (ev_is (ev_op (x := .int 21) (y := .int 21) ln ev_c (rv_eq rfl)) rfl) (fun _ => ev_is (ev_op (x := .int 4) (y := .int 4) n55 ev_c (rv_eq rfl)) rfl)) rfl) fun H4 e4 => q H4

/-! ### the text -/
def topS (i : Nat) : Stmt := PySem.Challenge.pw_sidering_k07_refused.main.body.getD i (.Pass ⟨0, 0, 0, 0⟩)
abbrev s_is_whole : Stmt := topS 8
theorem sc_is_whole : FnScope ["thing"] ["thing"] (defScope s_is_whole) := ⟨rfl, rfl, rfl, by decide +kernel, rfl, by decide +kernel, by decide +kernel⟩
abbrev s_check_grid : Stmt := topS 9
theorem sc_check_grid : FnScope ["grid", "one"] ["grid"] (defScope s_check_grid) := ⟨rfl, rfl, rfl, by decide +kernel, rfl, by decide +kernel, by decide +kernel⟩
abbrev s_check_few : Stmt := topS 35
theorem sc_check_few : FnScope ["grid"] ["grid"] (defScope s_check_few) := ⟨rfl, rfl, rfl, by decide +kernel, rfl, by decide +kernel, by decide +kernel⟩
abbrev s_beside : Stmt := topS 11
theorem sc_beside : FnScope ["grid", "cell", "high", "wide", "found"] ["grid", "cell"] (defScope s_beside) := ⟨rfl, rfl, rfl, by decide +kernel, rfl, by decide +kernel, by decide +kernel⟩
abbrev s_spread : Stmt := topS 17
theorem sc_spread : FnScope ["grid", "first", "some", "found", "at", "one"] ["grid", "first", "some"] (defScope s_spread) := ⟨rfl, rfl, rfl, by decide +kernel, rfl, by decide +kernel, by decide +kernel⟩
abbrev s_is_inner : Stmt := topS 18
theorem sc_is_inner : FnScope ["grid", "cells", "cell", "high", "wide", "rest", "one"] ["grid", "cells", "cell"] (defScope s_is_inner) := ⟨rfl, rfl, rfl, by decide +kernel, rfl, by decide +kernel, by decide +kernel⟩
abbrev s_first_inner : Stmt := topS 19
theorem sc_first_inner : FnScope ["grid", "cells", "cell"] ["grid", "cells"] (defScope s_first_inner) := ⟨rfl, rfl, rfl, by decide +kernel, rfl, by decide +kernel, by decide +kernel⟩
abbrev s_is_ring : Stmt := topS 20
theorem sc_is_ring : FnScope ["grid", "cells"] ["grid", "cells"] (defScope s_is_ring) := ⟨rfl, rfl, rfl, by decide +kernel, rfl, by decide +kernel, by decide +kernel⟩
abbrev s_all_rings : Stmt := topS 24
theorem sc_all_rings : FnScope ["grid", "many", "found", "number", "cells", "cell"] ["grid"] (defScope s_all_rings) := ⟨rfl, rfl, rfl, by decide +kernel, rfl, by decide +kernel, by decide +kernel⟩
abbrev s_rings : Stmt := topS 36
theorem sc_rings : FnScope ["grid"] ["grid"] (defScope s_rings) := ⟨rfl, rfl, rfl, by decide +kernel, rfl, by decide +kernel, by decide +kernel⟩
abbrev s_check_cells : Stmt := topS 10
theorem sc_check_cells : FnScope ["grid", "cells", "many", "one", "other"] ["grid", "cells"] (defScope s_check_cells) := ⟨rfl, rfl, rfl, by decide +kernel, rfl, by decide +kernel, by decide +kernel⟩
abbrev s_sides_of : Stmt := topS 12
theorem sc_sides_of : FnScope ["grid", "cells", "cell", "near", "one"] ["grid", "cells", "cell"] (defScope s_sides_of) := ⟨rfl, rfl, rfl, by decide +kernel, rfl, by decide +kernel, by decide +kernel⟩
abbrev s_numbers_of : Stmt := topS 13
theorem sc_numbers_of : FnScope ["grid", "cells", "high", "wide", "row", "at"] ["grid", "cells"] (defScope s_numbers_of) := ⟨rfl, rfl, rfl, by decide +kernel, rfl, by decide +kernel, by decide +kernel⟩
abbrev s_numbers : Stmt := topS 14
theorem sc_numbers : FnScope ["grid", "cells"] ["grid", "cells"] (defScope s_numbers) := ⟨rfl, rfl, rfl, by decide +kernel, rfl, by decide +kernel, by decide +kernel⟩
abbrev s_Split_init : Stmt := inClass (topS 22) 0
theorem sc_Split_init : FnScope ["self", "one", "other"] ["self", "one", "other"] (defScope s_Split_init) := ⟨rfl, rfl, rfl, by decide +kernel, rfl, by decide +kernel, by decide +kernel⟩
abbrev s_Hole_init : Stmt := inClass (topS 23) 0
theorem sc_Hole_init : FnScope ["self", "cell"] ["self", "cell"] (defScope s_Hole_init) := ⟨rfl, rfl, rfl, by decide +kernel, rfl, by decide +kernel, by decide +kernel⟩
abbrev s_judged : Stmt := topS 32
theorem sc_judged : FnScope ["grid", "cells", "near", "inner", "cell"] ["grid", "cells"] (defScope s_judged) := ⟨rfl, rfl, rfl, by decide +kernel, rfl, by decide +kernel, by decide +kernel⟩
abbrev s_side_ahead : Stmt := topS 33
theorem sc_side_ahead : FnScope ["grid", "cells", "point", "turn", "high", "wide", "row", "at", "pairs", "found", "here", "there"] ["grid", "cells", "point", "turn"] (defScope s_side_ahead) := ⟨rfl, rfl, rfl, by decide +kernel, rfl, by decide +kernel, by decide +kernel⟩
abbrev s_walk : Stmt := topS 34
theorem sc_walk : FnScope ["grid", "cells", "first", "steps", "found", "turn", "here", "back", "way"] ["grid", "cells"] (defScope s_walk) := ⟨rfl, rfl, rfl, by decide +kernel, rfl, by decide +kernel, by decide +kernel⟩
abbrev s_l_with_grid : Stmt := topS 42
theorem sc_l_with_grid : FnScope ["_law_door", "_law_thing"] ["_law_door", "_law_thing"] (defScope s_l_with_grid) := ⟨rfl, rfl, rfl, by decide +kernel, rfl, by decide +kernel, by decide +kernel⟩
abbrev s_l_no_grids : Stmt := topS 43
theorem sc_l_no_grids : FnScope ["_law_cell", "_law_bad", "_law_found", "_law_one"] ["_law_cell"] (defScope s_l_no_grids) := ⟨rfl, rfl, rfl, by decide +kernel, rfl, by decide +kernel, by decide +kernel⟩
abbrev s_l_with_great : Stmt := topS 44
theorem sc_l_with_great : FnScope ["_law_door", "_law_thing"] ["_law_door", "_law_thing"] (defScope s_l_with_great) := ⟨rfl, rfl, rfl, by decide +kernel, rfl, by decide +kernel, by decide +kernel⟩
abbrev s_l_great : Stmt := topS 45
theorem sc_l_great : FnScope ["_law_cell"] ["_law_cell"] (defScope s_l_great) := ⟨rfl, rfl, rfl, by decide +kernel, rfl, by decide +kernel, by decide +kernel⟩
abbrev s_l_with_cells : Stmt := topS 46
theorem sc_l_with_cells : FnScope ["_law_door", "_law_thing"] ["_law_door", "_law_thing"] (defScope s_l_with_cells) := ⟨rfl, rfl, rfl, by decide +kernel, rfl, by decide +kernel, by decide +kernel⟩
abbrev s_l_no_cells : Stmt := topS 47
theorem sc_l_no_cells : FnScope ["_law_cell", "_law_bad", "_law_found", "_law_one"] ["_law_cell"] (defScope s_l_no_cells) := ⟨rfl, rfl, rfl, by decide +kernel, rfl, by decide +kernel, by decide +kernel⟩
abbrev s_check_clues : Stmt := topS 37
theorem sc_check_clues : FnScope ["clues", "wide", "row", "clue"] ["clues"] (defScope s_check_clues) := ⟨rfl, rfl, rfl, by decide +kernel, rfl, by decide +kernel, by decide +kernel⟩
abbrev s_fits : Stmt := topS 25
theorem sc_fits : FnScope ["clues", "cells", "told", "row", "line", "clue", "number"] ["clues", "cells"] (defScope s_fits) := ⟨rfl, rfl, rfl, by decide +kernel, rfl, by decide +kernel, by decide +kernel⟩
abbrev s_fitting_of : Stmt := topS 26
theorem sc_fitting_of : FnScope ["clues", "cells"] ["clues"] (defScope s_fitting_of) := ⟨rfl, rfl, rfl, by decide +kernel, rfl, by decide +kernel, by decide +kernel⟩
abbrev s_fitting : Stmt := topS 38
theorem sc_fitting : FnScope ["clues"] ["clues"] (defScope s_fitting) := ⟨rfl, rfl, rfl, by decide +kernel, rfl, by decide +kernel, by decide +kernel⟩
abbrev s_One_init : Stmt := inClass (topS 27) 0
theorem sc_One_init : FnScope ["self", "cells"] ["self", "cells"] (defScope s_One_init) := ⟨rfl, rfl, rfl, by decide +kernel, rfl, by decide +kernel, by decide +kernel⟩
abbrev s_Two_init : Stmt := inClass (topS 28) 0
theorem sc_Two_init : FnScope ["self", "one", "other"] ["self", "one", "other"] (defScope s_Two_init) := ⟨rfl, rfl, rfl, by decide +kernel, rfl, by decide +kernel, by decide +kernel⟩
abbrev s_told : Stmt := topS 39
theorem sc_told : FnScope ["clues", "found"] ["clues"] (defScope s_told) := ⟨rfl, rfl, rfl, by decide +kernel, rfl, by decide +kernel, by decide +kernel⟩
abbrev s_l_with_clues : Stmt := topS 48
theorem sc_l_with_clues : FnScope ["_law_door", "_law_thing"] ["_law_door", "_law_thing"] (defScope s_l_with_clues) := ⟨rfl, rfl, rfl, by decide +kernel, rfl, by decide +kernel, by decide +kernel⟩
abbrev s_l_no_clues : Stmt := topS 49
theorem sc_l_no_clues : FnScope ["_law_cell", "_law_bad", "_law_found", "_law_one"] ["_law_cell"] (defScope s_l_no_clues) := ⟨rfl, rfl, rfl, by decide +kernel, rfl, by decide +kernel, by decide +kernel⟩
abbrev s_l_alone : Stmt := topS 41
theorem sc_l_alone : FnScope ["_law_error", "_law_due", "_law_found", "_law_k"] ["_law_error", "_law_due"] (defScope s_l_alone) := ⟨rfl, rfl, rfl, by decide +kernel, rfl, by decide +kernel, by decide +kernel⟩
abbrev s_l_refused : Stmt := topS 50
theorem sc_l_refused : FnScope ["_law_ask", "_law_door", "_law_thing", "_law_due", "_law_error"] ["_law_ask", "_law_door", "_law_thing", "_law_due"] (defScope s_l_refused) := ⟨rfl, rfl, rfl, by decide +kernel, rfl, by decide +kernel, by decide +kernel⟩
abbrev s_law : Stmt := topS 51
theorem sc_law : FnScope ["_law_script", "_law_kinds", "_law_ask", "_law_doors", "_law_things", "_law_due", "_law_door", "_law_cell", "_law_some", "_law_thing"] ["_law_script"] (defScope s_law) := ⟨rfl, rfl, rfl, by decide +kernel, rfl, by decide +kernel, by decide +kernel⟩
structure Tx (K : PySem.W.Frag) (mg : Str → Option Value) where
  C : Ad
  f_is_whole : Addr
  fd_is_whole : FuncData
  F_is_whole : Fun K "is_whole" "is_whole" s_is_whole f_is_whole fd_is_whole
  g_is_whole : mg "is_whole" = some (.ref f_is_whole)
  b_is_whole : Binds K fd_is_whole ["thing"] []
  f_check_grid : Addr
  fd_check_grid : FuncData
  F_check_grid : Fun K "check_grid" "check_grid" s_check_grid f_check_grid fd_check_grid
  g_check_grid : mg "check_grid" = some (.ref f_check_grid)
  b_check_grid : Binds K fd_check_grid ["grid"] []
  f_check_few : Addr
  fd_check_few : FuncData
  F_check_few : Fun K "check_few" "check_few" s_check_few f_check_few fd_check_few
  g_check_few : mg "check_few" = some (.ref f_check_few)
  b_check_few : Binds K fd_check_few ["grid"] []
  f_beside : Addr
  fd_beside : FuncData
  F_beside : Fun K "beside" "beside" s_beside f_beside fd_beside
  g_beside : mg "beside" = some (.ref f_beside)
  b_beside : Binds K fd_beside ["grid", "cell"] []
  f_spread : Addr
  fd_spread : FuncData
  F_spread : Fun K "spread" "spread" s_spread f_spread fd_spread
  g_spread : mg "spread" = some (.ref f_spread)
  b_spread : Binds K fd_spread ["grid", "first", "some"] []
  f_is_inner : Addr
  fd_is_inner : FuncData
  F_is_inner : Fun K "is_inner" "is_inner" s_is_inner f_is_inner fd_is_inner
  g_is_inner : mg "is_inner" = some (.ref f_is_inner)
  b_is_inner : Binds K fd_is_inner ["grid", "cells", "cell"] []
  f_first_inner : Addr
  fd_first_inner : FuncData
  F_first_inner : Fun K "first_inner" "first_inner" s_first_inner f_first_inner fd_first_inner
  g_first_inner : mg "first_inner" = some (.ref f_first_inner)
  b_first_inner : Binds K fd_first_inner ["grid", "cells"] []
  f_is_ring : Addr
  fd_is_ring : FuncData
  F_is_ring : Fun K "is_ring" "is_ring" s_is_ring f_is_ring fd_is_ring
  g_is_ring : mg "is_ring" = some (.ref f_is_ring)
  b_is_ring : Binds K fd_is_ring ["grid", "cells"] []
  f_all_rings : Addr
  fd_all_rings : FuncData
  F_all_rings : Fun K "all_rings" "all_rings" s_all_rings f_all_rings fd_all_rings
  g_all_rings : mg "all_rings" = some (.ref f_all_rings)
  b_all_rings : Binds K fd_all_rings ["grid"] []
  f_rings : Addr
  fd_rings : FuncData
  F_rings : Fun K "rings" "rings" s_rings f_rings fd_rings
  g_rings : mg "rings" = some (.ref f_rings)
  b_rings : Binds K fd_rings ["grid"] []
  f_check_cells : Addr
  fd_check_cells : FuncData
  F_check_cells : Fun K "check_cells" "check_cells" s_check_cells f_check_cells fd_check_cells
  g_check_cells : mg "check_cells" = some (.ref f_check_cells)
  b_check_cells : Binds K fd_check_cells ["grid", "cells"] []
  f_sides_of : Addr
  fd_sides_of : FuncData
  F_sides_of : Fun K "sides_of" "sides_of" s_sides_of f_sides_of fd_sides_of
  g_sides_of : mg "sides_of" = some (.ref f_sides_of)
  b_sides_of : Binds K fd_sides_of ["grid", "cells", "cell"] []
  f_numbers_of : Addr
  fd_numbers_of : FuncData
  F_numbers_of : Fun K "numbers_of" "numbers_of" s_numbers_of f_numbers_of fd_numbers_of
  g_numbers_of : mg "numbers_of" = some (.ref f_numbers_of)
  b_numbers_of : Binds K fd_numbers_of ["grid", "cells"] []
  f_numbers : Addr
  fd_numbers : FuncData
  F_numbers : Fun K "numbers" "numbers" s_numbers f_numbers fd_numbers
  g_numbers : mg "numbers" = some (.ref f_numbers)
  b_numbers : Binds K fd_numbers ["grid", "cells"] []
  g_Split : mg "Split" = some (.ref C.cSplit)
  f_Split_init : Addr
  fd_Split_init : FuncData
  F_Split_init : Fun K "__init__" "Split.__init__" s_Split_init f_Split_init fd_Split_init
  b_Split_init : Binds K fd_Split_init ["self", "one", "other"] []
  g_Hole : mg "Hole" = some (.ref C.cHole)
  f_Hole_init : Addr
  fd_Hole_init : FuncData
  F_Hole_init : Fun K "__init__" "Hole.__init__" s_Hole_init f_Hole_init fd_Hole_init
  b_Hole_init : Binds K fd_Hole_init ["self", "cell"] []
  f_judged : Addr
  fd_judged : FuncData
  F_judged : Fun K "judged" "judged" s_judged f_judged fd_judged
  g_judged : mg "judged" = some (.ref f_judged)
  b_judged : Binds K fd_judged ["grid", "cells"] []
  f_side_ahead : Addr
  fd_side_ahead : FuncData
  F_side_ahead : Fun K "side_ahead" "side_ahead" s_side_ahead f_side_ahead fd_side_ahead
  g_side_ahead : mg "side_ahead" = some (.ref f_side_ahead)
  b_side_ahead : Binds K fd_side_ahead ["grid", "cells", "point", "turn"] []
  f_walk : Addr
  fd_walk : FuncData
  F_walk : Fun K "walk" "walk" s_walk f_walk fd_walk
  g_walk : mg "walk" = some (.ref f_walk)
  b_walk : Binds K fd_walk ["grid", "cells"] []
  f_l_with_grid : Addr
  fd_l_with_grid : FuncData
  F_l_with_grid : Fun K "_law_with_grid" "_law_with_grid" s_l_with_grid f_l_with_grid fd_l_with_grid
  g_l_with_grid : mg "_law_with_grid" = some (.ref f_l_with_grid)
  b_l_with_grid : Binds K fd_l_with_grid ["_law_door", "_law_thing"] []
  f_l_no_grids : Addr
  fd_l_no_grids : FuncData
  F_l_no_grids : Fun K "_law_no_grids" "_law_no_grids" s_l_no_grids f_l_no_grids fd_l_no_grids
  g_l_no_grids : mg "_law_no_grids" = some (.ref f_l_no_grids)
  b_l_no_grids : Binds K fd_l_no_grids ["_law_cell"] []
  f_l_with_great : Addr
  fd_l_with_great : FuncData
  F_l_with_great : Fun K "_law_with_great" "_law_with_great" s_l_with_great f_l_with_great fd_l_with_great
  g_l_with_great : mg "_law_with_great" = some (.ref f_l_with_great)
  b_l_with_great : Binds K fd_l_with_great ["_law_door", "_law_thing"] []
  f_l_great : Addr
  fd_l_great : FuncData
  F_l_great : Fun K "_law_great" "_law_great" s_l_great f_l_great fd_l_great
  g_l_great : mg "_law_great" = some (.ref f_l_great)
  b_l_great : Binds K fd_l_great ["_law_cell"] []
  f_l_with_cells : Addr
  fd_l_with_cells : FuncData
  F_l_with_cells : Fun K "_law_with_cells" "_law_with_cells" s_l_with_cells f_l_with_cells fd_l_with_cells
  g_l_with_cells : mg "_law_with_cells" = some (.ref f_l_with_cells)
  b_l_with_cells : Binds K fd_l_with_cells ["_law_door", "_law_thing"] []
  f_l_no_cells : Addr
  fd_l_no_cells : FuncData
  F_l_no_cells : Fun K "_law_no_cells" "_law_no_cells" s_l_no_cells f_l_no_cells fd_l_no_cells
  g_l_no_cells : mg "_law_no_cells" = some (.ref f_l_no_cells)
  b_l_no_cells : Binds K fd_l_no_cells ["_law_cell"] []
  f_check_clues : Addr
  fd_check_clues : FuncData
  F_check_clues : Fun K "check_clues" "check_clues" s_check_clues f_check_clues fd_check_clues
  g_check_clues : mg "check_clues" = some (.ref f_check_clues)
  b_check_clues : Binds K fd_check_clues ["clues"] []
  f_fits : Addr
  fd_fits : FuncData
  F_fits : Fun K "fits" "fits" s_fits f_fits fd_fits
  g_fits : mg "fits" = some (.ref f_fits)
  b_fits : Binds K fd_fits ["clues", "cells"] []
  f_fitting_of : Addr
  fd_fitting_of : FuncData
  F_fitting_of : Fun K "fitting_of" "fitting_of" s_fitting_of f_fitting_of fd_fitting_of
  g_fitting_of : mg "fitting_of" = some (.ref f_fitting_of)
  b_fitting_of : Binds K fd_fitting_of ["clues"] []
  f_fitting : Addr
  fd_fitting : FuncData
  F_fitting : Fun K "fitting" "fitting" s_fitting f_fitting fd_fitting
  g_fitting : mg "fitting" = some (.ref f_fitting)
  b_fitting : Binds K fd_fitting ["clues"] []
  g_One : mg "One" = some (.ref C.cOne)
  f_One_init : Addr
  fd_One_init : FuncData
  F_One_init : Fun K "__init__" "One.__init__" s_One_init f_One_init fd_One_init
  b_One_init : Binds K fd_One_init ["self", "cells"] []
  g_Two : mg "Two" = some (.ref C.cTwo)
  f_Two_init : Addr
  fd_Two_init : FuncData
  F_Two_init : Fun K "__init__" "Two.__init__" s_Two_init f_Two_init fd_Two_init
  b_Two_init : Binds K fd_Two_init ["self", "one", "other"] []
  f_told : Addr
  fd_told : FuncData
  F_told : Fun K "told" "told" s_told f_told fd_told
  g_told : mg "told" = some (.ref f_told)
  b_told : Binds K fd_told ["clues"] []
  f_l_with_clues : Addr
  fd_l_with_clues : FuncData
  F_l_with_clues : Fun K "_law_with_clues" "_law_with_clues" s_l_with_clues f_l_with_clues fd_l_with_clues
  g_l_with_clues : mg "_law_with_clues" = some (.ref f_l_with_clues)
  b_l_with_clues : Binds K fd_l_with_clues ["_law_door", "_law_thing"] []
  f_l_no_clues : Addr
  fd_l_no_clues : FuncData
  F_l_no_clues : Fun K "_law_no_clues" "_law_no_clues" s_l_no_clues f_l_no_clues fd_l_no_clues
  g_l_no_clues : mg "_law_no_clues" = some (.ref f_l_no_clues)
  b_l_no_clues : Binds K fd_l_no_clues ["_law_cell"] []
  f_l_alone : Addr
  fd_l_alone : FuncData
  F_l_alone : Fun K "_law_alone" "_law_alone" s_l_alone f_l_alone fd_l_alone
  g_l_alone : mg "_law_alone" = some (.ref f_l_alone)
  b_l_alone : Binds K fd_l_alone ["_law_error", "_law_due"] []
  f_l_refused : Addr
  fd_l_refused : FuncData
  F_l_refused : Fun K "_law_refused" "_law_refused" s_l_refused f_l_refused fd_l_refused
  g_l_refused : mg "_law_refused" = some (.ref f_l_refused)
  b_l_refused : Binds K fd_l_refused ["_law_ask", "_law_door", "_law_thing", "_law_due"] []
  f_law : Addr
  fd_law : FuncData
  F_law : Fun K "law" "law" s_law f_law fd_law
  g_law : mg "law" = some (.ref f_law)
  b_law : Binds K fd_law ["_law_script"] []
  n_isinstance : mg "isinstance" = none
  n_int : mg "int" = none
  n_bool : mg "bool" = none
  n_tuple : mg "tuple" = none
  n_len : mg "len" = none
  n_all : mg "all" = none
  k_MOST : Tok
  g_MOST : mg "MOST" = some (.int 6 k_MOST)
  g_BadGrid : mg "BadGrid" = some (.ref C.cBadGrid)
  x_BadGrid : PySem.W.excIn K C.cBadGrid [.type "ValueError", .type "Exception", .type "BaseException", .type "object"] "ValueError.__new__" = true
  k_BadGrid : PySem.W.keepIn K (.ref C.cBadGrid) = true
  e_BadGrid : PySem.W.subIn K (.ref C.cBadGrid) (.type "BaseException") = some true
  y_BadGrid : PySem.W.typeIn K (.ref C.cBadGrid) = some (.type "type")
  k_FEW : Tok
  g_FEW : mg "FEW" = some (.int 9 k_FEW)
  n_range : mg "range" = none
  n_sorted : mg "sorted" = none
  n_list : mg "list" = none
  g_BadCells : mg "BadCells" = some (.ref C.cBadCells)
  x_BadCells : PySem.W.excIn K C.cBadCells [.type "ValueError", .type "Exception", .type "BaseException", .type "object"] "ValueError.__new__" = true
  k_BadCells : PySem.W.keepIn K (.ref C.cBadCells) = true
  e_BadCells : PySem.W.subIn K (.ref C.cBadCells) (.type "BaseException") = some true
  y_BadCells : PySem.W.typeIn K (.ref C.cBadCells) = some (.type "type")
  n_any : mg "any" = none
  n_zip : mg "zip" = none
  cl_Split : Cls K C.cSplit
  cf_Split : Cf K C.cSplit ["one", "other"]
  cl_Hole : Cls K C.cHole
  cf_Hole : Cf K C.cHole ["cell"]
  m_Split : Mk K C.cSplit f_Split_init
  g_Ring : mg "Ring" = some (.ref C.cRing)
  m_Ring : Mk0 K C.cRing
  m_Hole : Mk K C.cHole f_Hole_init
  g_NoRing : mg "NoRing" = some (.ref C.cNoRing)
  x_NoRing : PySem.W.excIn K C.cNoRing [.type "ValueError", .type "Exception", .type "BaseException", .type "object"] "ValueError.__new__" = true
  k_NoRing : PySem.W.keepIn K (.ref C.cNoRing) = true
  e_NoRing : PySem.W.subIn K (.ref C.cNoRing) (.type "BaseException") = some true
  y_NoRing : PySem.W.typeIn K (.ref C.cNoRing) = some (.type "type")
  g_BadClues : mg "BadClues" = some (.ref C.cBadClues)
  x_BadClues : PySem.W.excIn K C.cBadClues [.type "ValueError", .type "Exception", .type "BaseException", .type "object"] "ValueError.__new__" = true
  k_BadClues : PySem.W.keepIn K (.ref C.cBadClues) = true
  e_BadClues : PySem.W.subIn K (.ref C.cBadClues) (.type "BaseException") = some true
  y_BadClues : PySem.W.typeIn K (.ref C.cBadClues) = some (.type "type")
  cl_One : Cls K C.cOne
  cf_One : Cf K C.cOne ["cells"]
  cl_Two : Cls K C.cTwo
  cf_Two : Cf K C.cTwo ["one", "other"]
  g_Never : mg "Never" = some (.ref C.cNever)
  m_Never : Mk0 K C.cNever
  m_One : Mk K C.cOne f_One_init
  m_Two : Mk K C.cTwo f_Two_init
  ex_BadGrid : ExcC K C.cBadGrid
  ex_BadCells : ExcC K C.cBadCells
  ex_BadClues : ExcC K C.cBadClues
  ki_BadGrid_BadGrid : PySem.W.kitOne K (.ref C.cBadGrid) (.ref C.cBadGrid) = some true
  ki_BadGrid_BadCells : PySem.W.kitOne K (.ref C.cBadGrid) (.ref C.cBadCells) = some false
  ki_BadGrid_BadClues : PySem.W.kitOne K (.ref C.cBadGrid) (.ref C.cBadClues) = some false
  ki_BadGrid_NoRing : PySem.W.kitOne K (.ref C.cBadGrid) (.ref C.cNoRing) = some false
  ki_BadCells_BadGrid : PySem.W.kitOne K (.ref C.cBadCells) (.ref C.cBadGrid) = some false
  ki_BadCells_BadCells : PySem.W.kitOne K (.ref C.cBadCells) (.ref C.cBadCells) = some true
  ki_BadCells_BadClues : PySem.W.kitOne K (.ref C.cBadCells) (.ref C.cBadClues) = some false
  ki_BadCells_NoRing : PySem.W.kitOne K (.ref C.cBadCells) (.ref C.cNoRing) = some false
  ki_BadClues_BadGrid : PySem.W.kitOne K (.ref C.cBadClues) (.ref C.cBadGrid) = some false
  ki_BadClues_BadCells : PySem.W.kitOne K (.ref C.cBadClues) (.ref C.cBadCells) = some false
  ki_BadClues_BadClues : PySem.W.kitOne K (.ref C.cBadClues) (.ref C.cBadClues) = some true
  ki_BadClues_NoRing : PySem.W.kitOne K (.ref C.cBadClues) (.ref C.cNoRing) = some false
  kv_BadGrid : PySem.W.kitOne K (.ref C.cBadGrid) (.type "ValueError") = some true
  kv_BadCells : PySem.W.kitOne K (.ref C.cBadCells) (.type "ValueError") = some true
  kv_BadClues : PySem.W.kitOne K (.ref C.cBadClues) (.type "ValueError") = some true
  n_ValueError : mg "ValueError" = none
  g_RingError : mg "RingError" = some (.ref C.cRingError)
  em_BadGrid : PySem.W.exmOne K (.ref C.cBadGrid) (.ref C.cRingError) = some true
  em_BadCells : PySem.W.exmOne K (.ref C.cBadCells) (.ref C.cRingError) = some true
  em_BadClues : PySem.W.exmOne K (.ref C.cBadClues) (.ref C.cRingError) = some true
def fnsT {K : PySem.W.Frag} {mg : Str → Option Value} (T : Tx K mg) : Fns := { l_with_grid := T.f_l_with_grid, l_with_great := T.f_l_with_great, l_with_cells := T.f_l_with_cells, l_with_clues := T.f_l_with_clues, l_no_grids := T.f_l_no_grids, l_great := T.f_l_great, l_no_cells := T.f_l_no_cells, l_no_clues := T.f_l_no_clues }
section
variable {P : Program} {w : World} {K : PySem.W.Frag} {mg : Str → Option Value} {base : Heap}
set_option maxHeartbeats 4000000 in
theorem ok_is_whole (T : Tx K mg) : FnOk P w K mg base CX0 1 T.f_is_whole T.fd_is_whole ["thing"] (sp_is_whole K) := by
  refine T.F_is_whole.ok sc_is_whole (fun vs H Q E h => by obtain ⟨_, _, rfl, _⟩ := h; rfl) (fun cdv A outer s H vs Q E hr h => ⟨t_is_whole K, ?_, pure_is_whole rfl h⟩)
  exact (pss_one (ps_ret (pe_and (pe_callB call_isi (by rfl) T.n_isinstance (by decide +kernel) (pa_cons (pv 0) (pa_cons (pe_bltn (v := .ty "int") (by rfl) T.n_int (by decide +kernel) rfl) pa_nil))) (pe_one (pe_not (pe_callB call_isi (by rfl) T.n_isinstance (by decide +kernel) (pa_cons (pv 0) (pa_cons (pe_bltn (v := .ty "bool") (by rfl) T.n_bool (by decide +kernel) rfl) pa_nil))))))))
set_option maxHeartbeats 4000000 in
theorem ok_check_grid (T : Tx K mg) : FnOk P w K mg base (L2N.CX P w) 2 T.f_check_grid T.fd_check_grid ["grid"] (sp_check_grid K T.C) := by
  refine Sd.Fun.okN T.F_check_grid sc_check_grid (fun vs H Q E h => by obtain ⟨_, rfl, _⟩ := h; rfl) (fun cdv A outer s H vs Q E hr h => ⟨t_check_grid K T.C E, ?_, pure_check_grid rfl h⟩)
  exact (pss_one (ps_if (PW.pt (pw_or (pt_not (pt_val (pe_callB call_isi (by rfl) T.n_isinstance (by decide +kernel) (pa_cons (pv 0) (pa_cons (pe_bltn (v := .ty "tuple") (by rfl) T.n_tuple (by decide +kernel) rfl) pa_nil))))) (pw_or (pt_cmpR op_ne (pe_callB call_len_seq (by rfl) T.n_len (by decide +kernel) (pa_cons (pv 0) pa_nil)) pe_int (nomark _)) (pw_or1 (pt_not (pt_val (pe_callB (cr_all rfl) (by rfl) T.n_all (by decide +kernel) (pa_cons (pe_lc (own := [("one", 1)]) (g := (gName 1)) (tt := tYes) (te := (tAndV (tCall (sp_is_whole K) [] E0 (tCons (tVar 1) tNil)) (tChain oLe oLe (tC (.int 1)) (tVar 1) (tC (.int 6))))) rfl sc_check_grid.nd (pi_tup (pv 0)) (blkOk_by (own := [("one", 1)]) (by kernel_rfl)) (fun _ _ _ _ _ => (pg_name (i := 1) sc_check_grid.nd rfl (.inl rfl))) (fun _ _ _ _ _ => pts_nil) (fun _ _ _ _ _ => (pe_and (pe_call (ok_is_whole T) (hr.mono (by decide)) rfl T.g_is_whole T.F_is_whole.kp T.b_is_whole .nil pass0 (pa_cons (pv 1) pa_nil)) (pe_one (pe_chain op_le op_le pe_int (pv 1) (pe_glob rfl T.g_MOST ⟨_, rfl⟩)))))) pa_nil)))))))) (pss_one (L2N.ps_raise rfl (L2N.takes_of rfl rfl rfl rfl) (L2N.pmk_own PySem.F.excBase_ValueError T.x_BadGrid T.g_BadGrid T.k_BadGrid (raises_own T.e_BadGrid T.y_BadGrid) (by rfl)))) pss_nil))
set_option maxHeartbeats 4000000 in
theorem ok_check_few (T : Tx K mg) : FnOk P w K mg base (L2N.CX P w) 3 T.f_check_few T.fd_check_few ["grid"] (sp_check_few K T.C) := by
  refine Sd.Fun.okN T.F_check_few sc_check_few (fun vs H Q E h => by obtain ⟨_, rfl, _⟩ := h; rfl) (fun cdv A outer s H vs Q E hr h => ⟨t_check_few K T.C E, ?_, pure_check_few rfl h⟩)
  exact (pss_cons (ps_expr (pe_call (ok_check_grid T) (hr.mono (by decide)) rfl T.g_check_grid T.F_check_grid.kp T.b_check_grid .nil (L2N.passes_call (L2N.takes_of rfl rfl rfl rfl) (fun _ _ _ _ h => h)) (pa_cons (pv 0) pa_nil)))
      (pss_one (ps_if (pt_cmpR op_gt (pe_op op_mul (pe_ix ix_tup (pv 0) pe_int (fun _ _ => rfl)) (pe_ix ix_tup (pv 0) pe_int (fun _ _ => rfl))) (pe_glob rfl T.g_FEW ⟨_, rfl⟩) (nomark _)) (pss_one (L2N.ps_raise rfl (L2N.takes_of rfl rfl rfl rfl) (L2N.pmk_own PySem.F.excBase_ValueError T.x_BadGrid T.g_BadGrid T.k_BadGrid (raises_own T.e_BadGrid T.y_BadGrid) (by rfl)))) pss_nil)))
set_option maxHeartbeats 4000000 in
theorem ok_beside (T : Tx K mg) : FnOk P w K mg base CX0 1 T.f_beside T.fd_beside ["grid", "cell"] (sp_beside K) := by
  refine T.F_beside.ok sc_beside (fun vs H Q E h => by obtain ⟨_, _, _, _, rfl, _⟩ := h; rfl) (fun cdv A outer s H vs Q E hr h => ⟨t_beside K, ?_, pure_beside rfl h⟩)
  exact (pss_cons (ps_asg (pv 0) (pg_tup rfl (pgs_cons (pg_name (i := 2) sc_beside.nd rfl (.inl rfl)) (pgs_cons (pg_name (i := 3) sc_beside.nd rfl (.inl rfl)) pgs_nil))))
      (pss_cons (ps_set (i := 4) sc_beside.nd rfl (.inl rfl) (pe_lst pa_nil))
      (pss_cons (ps_if (pt_cmpR op_ge (pv 1) (pv 3) (nomark _)) (pss_one (ps_expr (pe_bm PySem.F.plainAttrs_list PySem.F.slot_list_append PySem.F.type_list_append mt_append (pv 4) (pa_cons (pe_op op_sub (pv 1) (pv 3)) pa_nil)))) pss_nil)
      (pss_cons (ps_if (pt_cmpR op_gt (pe_op op_mod (pv 1) (pv 3)) pe_int (nomark _)) (pss_one (ps_expr (pe_bm PySem.F.plainAttrs_list PySem.F.slot_list_append PySem.F.type_list_append mt_append (pv 4) (pa_cons (pe_op op_sub (pv 1) pe_int) pa_nil)))) pss_nil)
      (pss_cons (ps_if (pt_cmpR op_lt (pe_op op_mod (pv 1) (pv 3)) (pe_op op_sub (pv 3) pe_int) (nomark _)) (pss_one (ps_expr (pe_bm PySem.F.plainAttrs_list PySem.F.slot_list_append PySem.F.type_list_append mt_append (pv 4) (pa_cons (pe_op op_add (pv 1) pe_int) pa_nil)))) pss_nil)
      (pss_cons (ps_if (pt_cmpR op_lt (pv 1) (pe_op op_mul (pv 3) (pe_op op_sub (pv 2) pe_int)) (nomark _)) (pss_one (ps_expr (pe_bm PySem.F.plainAttrs_list PySem.F.slot_list_append PySem.F.type_list_append mt_append (pv 4) (pa_cons (pe_op op_add (pv 1) (pv 3)) pa_nil)))) pss_nil)
      (pss_one (ps_ret (pv 4)))))))))
set_option maxHeartbeats 4000000 in
theorem ok_spread (T : Tx K mg) : FnOk P w K mg base CX0 2 T.f_spread T.fd_spread ["grid", "first", "some"] (sp_spread K) := by
  refine T.F_spread.ok sc_spread (fun vs H Q E h => by obtain ⟨_, _, _, _, _, _, rfl, _⟩ := h; rfl) (fun cdv A outer s H vs Q E hr h => ⟨t_spread K, ?_, pure_spread rfl h⟩)
  exact (pss_cons (ps_asg (pe_tup (pa_cons (pe_lst (pa_cons (pv 1) pa_nil)) (pa_cons pe_int pa_nil))) (pg_tup rfl (pgs_cons (pg_name (i := 3) sc_spread.nd rfl (.inr rfl)) (pgs_cons (pg_name (i := 4) sc_spread.nd rfl (.inl rfl)) pgs_nil))))
      (pss_cons (ps_while PassesOwn.never (pt_cmpR op_lt (pv 4) (pe_callB call_len_seq (by rfl) T.n_len (by decide +kernel) (pa_cons (pv 3) pa_nil)) (nomark _)) (pss_cons (ps_expr (pe_bm PySem.F.plainAttrs_list PySem.F.slot_list_extend PySem.F.type_list_extend mt_extend (pv 3) (pa_cons (pe_lc (own := [("one", 5)]) (g := (gName 5)) (tt := (tAnd (tTest (tOp (rIn K false) (tVar 5) (tVar 2))) (tTest (tOp (rIn K true) (tVar 5) (tVar 3))))) (te := (tVar 5)) rfl sc_spread.nd (pi_list (pe_call (ok_beside T) (hr.mono (by decide)) rfl T.g_beside T.F_beside.kp T.b_beside .nil pass0 (pa_cons (pv 0) (pa_cons (pe_ix ix_list (pv 3) (pv 4) (fun _ _ => rfl)) pa_nil)))) (blkOk_by (own := [("one", 5)]) (by kernel_rfl)) (fun _ _ _ _ _ => (pg_name (i := 5) sc_spread.nd rfl (.inl rfl))) (fun _ _ _ _ _ => (pts_one (PW.pt (pw_and (pt_cmpR op_in_seq (pv 5) (pv 2) (by rfl)) (pw_and1 (pt_cmpR op_notIn_seq (pv 5) (pv 3) (by rfl))))))) (fun _ _ _ _ _ => (pv 5))) pa_nil)))
      (pss_one (ps_aug (i := 4) sc_spread.nd rfl (.inl rfl) pe_int ip_add))))
      (pss_one (ps_ret (pv 3)))))
set_option maxHeartbeats 4000000 in
theorem ok_is_inner (T : Tx K mg) : FnOk P w K mg base CX0 3 T.f_is_inner T.fd_is_inner ["grid", "cells", "cell"] (sp_is_inner K) := by
  refine T.F_is_inner.ok sc_is_inner (fun vs H Q E h => by obtain ⟨_, _, _, _, _, _, rfl, _⟩ := h; rfl) (fun cdv A outer s H vs Q E hr h => ⟨t_is_inner K, ?_, pure_is_inner rfl h⟩)
  exact (pss_cons (ps_asg (pv 0) (pg_tup rfl (pgs_cons (pg_name (i := 3) sc_is_inner.nd rfl (.inl rfl)) (pgs_cons (pg_name (i := 4) sc_is_inner.nd rfl (.inl rfl)) pgs_nil))))
      (pss_cons (ps_setLc (i := 5) (own := [("one", 6)]) (g := (gName 6)) (tt := (tTest (tOp (rIn K true) (tVar 6) (tVar 1)))) (te := (tVar 6)) rfl sc_is_inner.nd rfl rfl (sw_true rfl rfl rfl (by decide +kernel)) (pi_range1 rfl T.n_range (pa_cons (pe_op op_mul (pv 3) (pv 4)) pa_nil)) (blkOk_by (own := [("one", 6)]) (by kernel_rfl)) (fun _ _ _ _ _ => (pg_name (i := 6) sc_is_inner.nd rfl (.inl rfl))) (fun _ _ _ _ _ => (pts_one (pt_cmpR op_notIn_seq (pv 6) (pv 1) (by rfl)))) (fun _ _ _ _ _ => (pv 6)))
      (pss_cons (ps_for PassesOwn.never rfl (pi_list (pe_call (ok_spread T) (hr.mono (by decide)) rfl T.g_spread T.F_spread.kp T.b_spread .nil pass0 (pa_cons (pv 0) (pa_cons (pv 2) (pa_cons (pv 5) pa_nil))))) (pg_name (i := 6) sc_is_inner.nd rfl (.inl rfl)) (pss_one (ps_if (PW.pt (pw_or (pt_cmpR op_lt (pv 6) (pv 4) (nomark _)) (pw_or (pt_cmpR op_ge (pv 6) (pe_op op_mul (pv 4) (pe_op op_sub (pv 3) pe_int)) (nomark _)) (pw_or1 (pt_cmpR op_in_seq (pe_op op_mod (pv 6) (pv 4)) (pe_tup (pa_cons pe_int (pa_cons (pe_op op_sub (pv 4) pe_int) pa_nil))) (by rfl)))))) (pss_one (ps_ret pe_bl)) pss_nil)))
      (pss_one (ps_ret pe_bl)))))
set_option maxHeartbeats 4000000 in
theorem ok_first_inner (T : Tx K mg) : FnOk P w K mg base CX0 4 T.f_first_inner T.fd_first_inner ["grid", "cells"] (sp_first_inner K) := by
  refine T.F_first_inner.ok sc_first_inner (fun vs H Q E h => by obtain ⟨_, _, _, _, _, rfl, _⟩ := h; rfl) (fun cdv A outer s H vs Q E hr h => ⟨t_first_inner K, ?_, pure_first_inner rfl h⟩)
  exact (pss_cons (ps_for PassesOwn.never rfl (pi_range1 rfl T.n_range (pa_cons (pe_op op_mul (pe_ix ix_tup (pv 0) pe_int (fun _ _ => rfl)) (pe_ix ix_tup (pv 0) pe_int (fun _ _ => rfl))) pa_nil)) (pg_name (i := 2) sc_first_inner.nd rfl (.inl rfl)) (pss_one (ps_if (PW.pt (pw_and (pt_cmpR op_notIn_seq (pv 2) (pv 1) (by rfl)) (pw_and1 (pt_val (pe_call (ok_is_inner T) (hr.mono (by decide)) rfl T.g_is_inner T.F_is_inner.kp T.b_is_inner .nil pass0 (pa_cons (pv 0) (pa_cons (pv 1) (pa_cons (pv 2) pa_nil)))))))) (pss_one (ps_ret (pv 2))) pss_nil)))
      (pss_one (ps_ret pe_non)))
set_option maxHeartbeats 4000000 in
theorem ok_is_ring (T : Tx K mg) : FnOk P w K mg base CX0 5 T.f_is_ring T.fd_is_ring ["grid", "cells"] (sp_is_ring K) := by
  refine T.F_is_ring.ok sc_is_ring (fun vs H Q E h => by obtain ⟨_, _, _, _, _, rfl, _⟩ := h; rfl) (fun cdv A outer s H vs Q E hr h => ⟨t_is_ring K, ?_, pure_is_ring rfl h⟩)
  exact (pss_cons (ps_if (pt_cmpR op_lt (pe_callB call_len_seq (by rfl) T.n_len (by decide +kernel) (pa_cons (pe_call (ok_spread T) (hr.mono (by decide)) rfl T.g_spread T.F_spread.kp T.b_spread .nil pass0 (pa_cons (pv 0) (pa_cons (pe_ix ix_list (pv 1) pe_int (fun _ _ => rfl)) (pa_cons (pv 1) pa_nil)))) pa_nil)) (pe_callB call_len_seq (by rfl) T.n_len (by decide +kernel) (pa_cons (pv 1) pa_nil)) (nomark _)) (pss_one (ps_ret pe_bl)) pss_nil)
      (pss_one (ps_ret (pe_cmpR op_isN1 (pe_call (ok_first_inner T) (hr.mono (by decide)) rfl T.g_first_inner T.F_first_inner.kp T.b_first_inner .nil pass0 (pa_cons (pv 0) (pa_cons (pv 1) pa_nil))) pe_non (nomark _)))))
set_option maxHeartbeats 4000000 in
theorem ok_all_rings (T : Tx K mg) : FnOk P w K mg base CX0 6 T.f_all_rings T.fd_all_rings ["grid"] (sp_all_rings K) := by
  refine T.F_all_rings.ok sc_all_rings (fun vs H Q E h => by obtain ⟨_, _, _, rfl, _⟩ := h; rfl) (fun cdv A outer s H vs Q E hr h => ⟨t_all_rings K, ?_, pure_all_rings rfl h⟩)
  exact (pss_cons (ps_par (i := 1) (j := 2) (by rfl) sc_all_rings.nd rfl rfl (by decide) rfl rfl (pa_cons (pe_op op_mul (pe_ix ix_tup (pv 0) pe_int (fun _ _ => rfl)) (pe_ix ix_tup (pv 0) pe_int (fun _ _ => rfl))) (pa_cons (pe_lst pa_nil) pa_nil)) (by rfl))
      (pss_cons (ps_for PassesOwn.never rfl (pi_range2 rfl T.n_range (pa_cons pe_int (pa_cons (pe_op op_shl pe_int (pv 1)) pa_nil))) (pg_name (i := 3) sc_all_rings.nd rfl (.inr rfl)) (pss_cons (ps_setLc (i := 4) (own := [("cell", 5)]) (g := (gName 5)) (tt := (tTest (tOp rEq (tOp oAnd (tOp oShr (tVar 3) (tVar 5)) (tC (.int 1))) (tC (.int 1))))) (te := (tVar 5)) rfl sc_all_rings.nd rfl rfl (sw_true rfl rfl rfl (by decide +kernel)) (pi_range1 rfl T.n_range (pa_cons (pv 1) pa_nil)) (blkOk_by (own := [("cell", 5)]) (by kernel_rfl)) (fun _ _ _ _ _ => (pg_name (i := 5) sc_all_rings.nd rfl (.inl rfl))) (fun _ _ _ _ _ => (pts_one (pt_cmpR op_eq (pe_op op_and (pe_op op_shr (pv 3) (pv 5)) pe_int) pe_int (nomark _)))) (fun _ _ _ _ _ => (pv 5)))
      (pss_one (ps_if (pt_val (pe_call (ok_is_ring T) (hr.mono (by decide)) rfl T.g_is_ring T.F_is_ring.kp T.b_is_ring .nil pass0 (pa_cons (pv 0) (pa_cons (pv 4) pa_nil)))) (pss_one (ps_expr (pe_bm PySem.F.plainAttrs_list PySem.F.slot_list_append PySem.F.type_list_append mt_append (pv 2) (pa_cons (pv 4) pa_nil)))) pss_nil))))
      (pss_one (ps_ret (pe_callB (cr_sortV (enc := dI) hr.units) (by rfl) T.n_sorted (by decide +kernel) (pa_cons (pv 2) pa_nil))))))
set_option maxHeartbeats 4000000 in
theorem ok_rings (T : Tx K mg) : FnOk P w K mg base (L2N.CX P w) 7 T.f_rings T.fd_rings ["grid"] (sp_rings K T.C) := by
  refine Sd.Fun.okN T.F_rings sc_rings (fun vs H Q E h => by obtain ⟨_, rfl, _⟩ := h; rfl) (fun cdv A outer s H vs Q E hr h => ⟨t_rings K T.C E, ?_, pure_rings rfl h⟩)
  exact (pss_cons (ps_expr (pe_call (ok_check_few T) (hr.mono (by decide)) rfl T.g_check_few T.F_check_few.kp T.b_check_few .nil (L2N.passes_call (L2N.takes_of rfl rfl rfl rfl) (fun _ _ _ _ h => h)) (pa_cons (pv 0) pa_nil)))
      (pss_one (ps_ret (pe_call (ok_all_rings T) (hr.mono (by decide)) rfl T.g_all_rings T.F_all_rings.kp T.b_all_rings .nil pass0 (pa_cons (pv 0) pa_nil)))))
set_option maxHeartbeats 4000000 in
theorem ok_check_cells (T : Tx K mg) : FnOk P w K mg base (L2N.CX P w) 2 T.f_check_cells T.fd_check_cells ["grid", "cells"] (sp_check_cells K T.C) := by
  refine Sd.Fun.okN T.F_check_cells sc_check_cells (fun vs H Q E h => by obtain ⟨_, _, _, _, rfl, _⟩ := h; rfl) (fun cdv A outer s H vs Q E hr h => ⟨t_check_cells K T.C E, ?_, pure_check_cells rfl h⟩)
  exact (pss_cons (ps_set (i := 2) sc_check_cells.nd rfl (.inr rfl) (pe_op op_mul (pe_ix ix_tup (pv 0) pe_int (fun _ _ => rfl)) (pe_ix ix_tup (pv 0) pe_int (fun _ _ => rfl))))
      (pss_cons (ps_if (PW.pt (pw_or (pt_not (pt_val (pe_callB call_isi (by rfl) T.n_isinstance (by decide +kernel) (pa_cons (pv 1) (pa_cons (pe_bltn (v := .ty "list") (by rfl) T.n_list (by decide +kernel) rfl) pa_nil))))) (pw_or (pt_cmpR (op_eqD hr.units) (pv 1) (pe_lst pa_nil) (nomark _)) (pw_or1 (pt_not (pt_val (pe_callB (cr_all rfl) (by rfl) T.n_all (by decide +kernel) (pa_cons (pe_lc (own := [("one", 3)]) (g := (gName 3)) (tt := tYes) (te := (tAndV (tCall (sp_is_whole K) [] E0 (tCons (tVar 3) tNil)) (tChain oLe oLt (tC (.int 0)) (tVar 3) (tVar 2)))) rfl sc_check_cells.nd (pi_list (pv 1)) (blkOk_by (own := [("one", 3)]) (by kernel_rfl)) (fun _ _ _ _ _ => (pg_name (i := 3) sc_check_cells.nd rfl (.inl rfl))) (fun _ _ _ _ _ => pts_nil) (fun _ _ _ _ _ => (pe_and (pe_call (ok_is_whole T) (hr.mono (by decide)) rfl T.g_is_whole T.F_is_whole.kp T.b_is_whole .nil pass0 (pa_cons (pv 3) pa_nil)) (pe_one (pe_chain op_le op_lt pe_int (pv 3) (pv 2)))))) pa_nil)))))))) (pss_one (L2N.ps_raise rfl (L2N.takes_of rfl rfl rfl rfl) (L2N.pmk_own PySem.F.excBase_ValueError T.x_BadCells T.g_BadCells T.k_BadCells (raises_own T.e_BadCells T.y_BadCells) (by rfl)))) pss_nil)
      (pss_one (ps_if (pt_val (pe_callB (cr_any rfl) (by rfl) T.n_any (by decide +kernel) (pa_cons (pe_lc (own := [("one", 3), ("other", 4)]) (g := (gTup K 2 (gCons (gName 3) (gCons (gName 4) gNil)))) (tt := tYes) (te := (tOp oGe (tVar 3) (tVar 4))) rfl sc_check_cells.nd (pi_zip (by rfl) T.n_zip (pa_cons (pv 1) (pa_cons (pe_slice sl_list (pv 1) (po_some pe_int) po_none) pa_nil))) (blkOk_by (own := [("one", 3), ("other", 4)]) (by kernel_rfl)) (fun _ _ _ _ _ => (pg_tup rfl (pgs_cons (pg_name (i := 3) sc_check_cells.nd rfl (.inl rfl)) (pgs_cons (pg_name (i := 4) sc_check_cells.nd rfl (.inl rfl)) pgs_nil)))) (fun _ _ _ _ _ => pts_nil) (fun _ _ _ _ _ => (pe_cmpR op_ge (pv 3) (pv 4) (nomark _)))) pa_nil))) (pss_one (L2N.ps_raise rfl (L2N.takes_of rfl rfl rfl rfl) (L2N.pmk_own PySem.F.excBase_ValueError T.x_BadCells T.g_BadCells T.k_BadCells (raises_own T.e_BadCells T.y_BadCells) (by rfl)))) pss_nil))))
set_option maxHeartbeats 4000000 in
theorem ok_sides_of (T : Tx K mg) : FnOk P w K mg base CX0 2 T.f_sides_of T.fd_sides_of ["grid", "cells", "cell"] (sp_sides_of K) := by
  refine T.F_sides_of.ok sc_sides_of (fun vs H Q E h => by obtain ⟨_, _, _, _, _, _, rfl, _⟩ := h; rfl) (fun cdv A outer s H vs Q E hr h => ⟨t_sides_of K, ?_, pure_sides_of rfl h⟩)
  exact (pss_cons (ps_set (i := 3) sc_sides_of.nd rfl (.inl rfl) (pe_callB call_len_seq (by rfl) T.n_len (by decide +kernel) (pa_cons (pe_lc (own := [("one", 4)]) (g := (gName 4)) (tt := (tTest (tOp (rIn K false) (tVar 4) (tVar 1)))) (te := (tVar 4)) rfl sc_sides_of.nd (pi_list (pe_call (ok_beside T) (hr.mono (by decide)) rfl T.g_beside T.F_beside.kp T.b_beside .nil pass0 (pa_cons (pv 0) (pa_cons (pv 2) pa_nil)))) (blkOk_by (own := [("one", 4)]) (by kernel_rfl)) (fun _ _ _ _ _ => (pg_name (i := 4) sc_sides_of.nd rfl (.inl rfl))) (fun _ _ _ _ _ => (pts_one (pt_cmpR op_in_seq (pv 4) (pv 1) (by rfl)))) (fun _ _ _ _ _ => (pv 4))) pa_nil)))
      (pss_one (ps_ret (pe_ifExp (pt_cmpR op_in_seq (pv 2) (pv 1) (by rfl)) (pe_op op_sub pe_int (pv 3)) (pv 3)))))
set_option maxHeartbeats 4000000 in
theorem ok_numbers_of (T : Tx K mg) : FnOk P w K mg base CX0 3 T.f_numbers_of T.fd_numbers_of ["grid", "cells"] (sp_numbers_of K) := by
  refine T.F_numbers_of.ok sc_numbers_of (fun vs H Q E h => by obtain ⟨_, _, _, _, _, rfl, _⟩ := h; rfl) (fun cdv A outer s H vs Q E hr h => ⟨t_numbers_of K, ?_, pure_numbers_of rfl h⟩)
  exact (pss_cons (ps_asg (pv 0) (pg_tup rfl (pgs_cons (pg_name (i := 2) sc_numbers_of.nd rfl (.inl rfl)) (pgs_cons (pg_name (i := 3) sc_numbers_of.nd rfl (.inr rfl)) pgs_nil))))
      (pss_one (ps_ret (pe_lc (own := [("row", 4)]) (g := (gName 4)) (tt := tYes) (te := (tLc (iRng1 (tCons (tVar 3) tNil)) (gName 5) tYes (tCall (sp_sides_of K) [] E0 (tCons (tVar 0) (tCons (tVar 1) (tCons (tOp oAdd (tOp oMul (tVar 4) (tVar 3)) (tVar 5)) tNil)))) [5])) rfl sc_numbers_of.nd (pi_range1 rfl T.n_range (pa_cons (pv 2) pa_nil)) (blkOk_by (own := [("row", 4)]) (by kernel_rfl)) (fun _ _ _ _ _ => (pg_name (i := 4) sc_numbers_of.nd rfl (.inr rfl))) (fun _ _ _ _ _ => pts_nil) (fun _ _ _ _ _ => (pe_lc (own := [("at", 5)]) (g := (gName 5)) (tt := tYes) (te := (tCall (sp_sides_of K) [] E0 (tCons (tVar 0) (tCons (tVar 1) (tCons (tOp oAdd (tOp oMul (tVar 4) (tVar 3)) (tVar 5)) tNil))))) rfl sc_numbers_of.nd (pi_range1 rfl T.n_range (pa_cons (pv 3) pa_nil)) (blkOk_by (own := [("at", 5)]) (by kernel_rfl)) (fun _ _ _ _ _ => (pg_name (i := 5) sc_numbers_of.nd rfl (.inl rfl))) (fun _ _ _ _ _ => pts_nil) (fun _ _ _ _ _ => (pe_call (ok_sides_of T) (hr.mono (by decide)) rfl T.g_sides_of T.F_sides_of.kp T.b_sides_of .nil pass0 (pa_cons (pv 0) (pa_cons (pv 1) (pa_cons (pe_op op_add (pe_op op_mul (pv 4) (pv 3)) (pv 5)) pa_nil)))))))))))
set_option maxHeartbeats 4000000 in
theorem ok_numbers (T : Tx K mg) : FnOk P w K mg base (L2N.CX P w) 4 T.f_numbers T.fd_numbers ["grid", "cells"] (sp_numbers K T.C) := by
  refine Sd.Fun.okN T.F_numbers sc_numbers (fun vs H Q E h => by obtain ⟨_, _, rfl, _⟩ := h; rfl) (fun cdv A outer s H vs Q E hr h => ⟨t_numbers K T.C E, ?_, pure_numbers rfl h⟩)
  exact (pss_cons (ps_expr (pe_call (ok_check_grid T) (hr.mono (by decide)) rfl T.g_check_grid T.F_check_grid.kp T.b_check_grid .nil (L2N.passes_call (L2N.takes_of rfl rfl rfl rfl) (fun _ _ _ _ h => h)) (pa_cons (pv 0) pa_nil)))
      (pss_cons (ps_expr (pe_call (ok_check_cells T) (hr.mono (by decide)) rfl T.g_check_cells T.F_check_cells.kp T.b_check_cells .nil (L2N.passes_call (L2N.takes_of rfl rfl rfl rfl) (fun _ _ _ _ h => h)) (pa_cons (pv 0) (pa_cons (pv 1) pa_nil))))
      (pss_one (ps_ret (pe_call (ok_numbers_of T) (hr.mono (by decide)) rfl T.g_numbers_of T.F_numbers_of.kp T.b_numbers_of .nil pass0 (pa_cons (pv 0) (pa_cons (pv 1) pa_nil)))))))
set_option maxHeartbeats 4000000 in
theorem ok_Split_init (T : Tx K mg) : FnOk P w K mg base CX0 1 T.f_Split_init T.fd_Split_init ["self", "one", "other"] (sp_Split_init K T.C) := by
  refine T.F_Split_init.ok sc_Split_init (fun vs H Q E h => by obtain ⟨_, _, _, _, rfl, _⟩ := h; rfl) (fun cdv A outer s H vs Q E hr h => ⟨t_Split_init K, ?_, pure_Split_init rfl T.cf_Split h⟩)
  exact (pss_cons (ps_fld (pv 0) (pv 1) rfl)
      (pss_one (ps_fld (pv 0) (pv 2) rfl)))
set_option maxHeartbeats 4000000 in
theorem ok_Hole_init (T : Tx K mg) : FnOk P w K mg base CX0 1 T.f_Hole_init T.fd_Hole_init ["self", "cell"] (sp_Hole_init K T.C) := by
  refine T.F_Hole_init.ok sc_Hole_init (fun vs H Q E h => by obtain ⟨_, _, _, rfl, _⟩ := h; rfl) (fun cdv A outer s H vs Q E hr h => ⟨t_Hole_init K, ?_, pure_Hole_init rfl T.cf_Hole h⟩)
  exact (pss_one (ps_fld (pv 0) (pv 1) rfl))
set_option maxHeartbeats 4000000 in
theorem ok_judged (T : Tx K mg) : FnOk P w K mg base (L2N.CX P w) 5 T.f_judged T.fd_judged ["grid", "cells"] (sp_judged K T.C) := by
  refine Sd.Fun.okN T.F_judged sc_judged (fun vs H Q E h => by obtain ⟨_, _, rfl, _⟩ := h; rfl) (fun cdv A outer s H vs Q E hr h => ⟨t_judged K T.C E, ?_, pure_judged rfl h⟩)
  exact (pss_cons (ps_expr (pe_call (ok_check_grid T) (hr.mono (by decide)) rfl T.g_check_grid T.F_check_grid.kp T.b_check_grid .nil (L2N.passes_call (L2N.takes_of rfl rfl rfl rfl) (fun _ _ _ _ h => h)) (pa_cons (pv 0) pa_nil)))
      (pss_cons (ps_expr (pe_call (ok_check_cells T) (hr.mono (by decide)) rfl T.g_check_cells T.F_check_cells.kp T.b_check_cells .nil (L2N.passes_call (L2N.takes_of rfl rfl rfl rfl) (fun _ _ _ _ h => h)) (pa_cons (pv 0) (pa_cons (pv 1) pa_nil))))
      (pss_cons (ps_set (i := 2) sc_judged.nd rfl (.inr rfl) (pe_call (ok_spread T) (hr.mono (by decide)) rfl T.g_spread T.F_spread.kp T.b_spread .nil pass0 (pa_cons (pv 0) (pa_cons (pe_ix ix_list (pv 1) pe_int (fun _ _ => rfl)) (pa_cons (pv 1) pa_nil)))))
      (pss_cons (ps_if (pt_cmpR op_lt (pe_callB call_len_seq (by rfl) T.n_len (by decide +kernel) (pa_cons (pv 2) pa_nil)) (pe_callB call_len_seq (by rfl) T.n_len (by decide +kernel) (pa_cons (pv 1) pa_nil)) (nomark _)) (pss_one (ps_ret (pe_make T.m_Split (ok_Split_init T) (hr.mono (by decide)) (by rfl) T.g_Split T.b_Split_init .nil pass0 (pa_cons (pe_ix ix_list (pv 1) pe_int (fun _ _ => rfl)) (pa_cons (pe_ix ix_list (pe_lc (own := [("cell", 4)]) (g := (gName 4)) (tt := (tTest (tOp (rIn K true) (tVar 4) (tVar 2)))) (te := (tVar 4)) rfl sc_judged.nd (pi_list (pv 1)) (blkOk_by (own := [("cell", 4)]) (by kernel_rfl)) (fun _ _ _ _ _ => (pg_name (i := 4) sc_judged.nd rfl (.inl rfl))) (fun _ _ _ _ _ => (pts_one (pt_cmpR op_notIn_seq (pv 4) (pv 2) (by rfl)))) (fun _ _ _ _ _ => (pv 4))) pe_int (fun _ _ => rfl)) pa_nil))))) pss_nil)
      (pss_cons (ps_set (i := 3) sc_judged.nd rfl (.inl rfl) (pe_call (ok_first_inner T) (hr.mono (by decide)) rfl T.g_first_inner T.F_first_inner.kp T.b_first_inner .nil pass0 (pa_cons (pv 0) (pa_cons (pv 1) pa_nil))))
      (pss_one (ps_ret (pe_ifExp (pt_cmpR op_isN1 (pv 3) pe_non (nomark _)) (pe_bare T.m_Ring (by rfl) T.g_Ring) (pe_make T.m_Hole (ok_Hole_init T) (hr.mono (by decide)) (by rfl) T.g_Hole T.b_Hole_init .nil pass0 (pa_cons (pv 3) pa_nil))))))))))
set_option maxHeartbeats 4000000 in
theorem ok_side_ahead (T : Tx K mg) : FnOk P w K mg base CX0 1 T.f_side_ahead T.fd_side_ahead ["grid", "cells", "point", "turn"] (sp_side_ahead K) := by
  refine T.F_side_ahead.ok sc_side_ahead (fun vs H Q E h => by obtain ⟨_, _, _, _, _, _, _, _, _, rfl, _⟩ := h; rfl) (fun cdv A outer s H vs Q E hr h => ⟨t_side_ahead K, ?_, pure_side_ahead rfl h⟩)
  exact (pss_cons (ps_asg (pv 0) (pg_tup rfl (pgs_cons (pg_name (i := 4) sc_side_ahead.nd rfl (.inl rfl)) (pgs_cons (pg_name (i := 5) sc_side_ahead.nd rfl (.inl rfl)) pgs_nil))))
      (pss_cons (ps_asg (pv 2) (pg_tup rfl (pgs_cons (pg_name (i := 6) sc_side_ahead.nd rfl (.inl rfl)) (pgs_cons (pg_name (i := 7) sc_side_ahead.nd rfl (.inl rfl)) pgs_nil))))
      (pss_cons (ps_set (i := 8) sc_side_ahead.nd rfl (.inl rfl) (pe_tup (pa_cons (pe_tup (pa_cons (pe_tup (pa_cons (pe_op op_sub (pv 6) pe_int) (pa_cons (pv 7) pa_nil))) (pa_cons (pe_tup (pa_cons (pv 6) (pa_cons (pv 7) pa_nil))) pa_nil))) (pa_cons (pe_tup (pa_cons (pe_tup (pa_cons (pv 6) (pa_cons (pv 7) pa_nil))) (pa_cons (pe_tup (pa_cons (pv 6) (pa_cons (pe_op op_sub (pv 7) pe_int) pa_nil))) pa_nil))) (pa_cons (pe_tup (pa_cons (pe_tup (pa_cons (pv 6) (pa_cons (pe_op op_sub (pv 7) pe_int) pa_nil))) (pa_cons (pe_tup (pa_cons (pe_op op_sub (pv 6) pe_int) (pa_cons (pe_op op_sub (pv 7) pe_int) pa_nil))) pa_nil))) (pa_cons (pe_tup (pa_cons (pe_tup (pa_cons (pe_op op_sub (pv 6) pe_int) (pa_cons (pe_op op_sub (pv 7) pe_int) pa_nil))) (pa_cons (pe_tup (pa_cons (pe_op op_sub (pv 6) pe_int) (pa_cons (pv 7) pa_nil))) pa_nil))) pa_nil))))))
      (pss_cons (ps_set (i := 9) sc_side_ahead.nd rfl (.inl rfl) (pe_lst pa_nil))
      (pss_cons (ps_for PassesOwn.never rfl (pi_tup (pe_ix ix_tup (pv 8) (pv 3) (fun _ _ => rfl))) (pg_tup rfl (pgs_cons (pg_name (i := 10) sc_side_ahead.nd rfl (.inl rfl)) (pgs_cons (pg_name (i := 11) sc_side_ahead.nd rfl (.inl rfl)) pgs_nil))) (pss_one (ps_expr (pe_bm PySem.F.plainAttrs_list PySem.F.slot_list_append PySem.F.type_list_append mt_append (pv 9) (pa_cons (pe_and (pe_chain op_le op_lt pe_int (pv 10) (pv 4)) (pe_and (pe_chain op_le op_lt pe_int (pv 11) (pv 5)) (pe_one (pe_cmpR op_in_seq (pe_op op_add (pe_op op_mul (pv 10) (pv 5)) (pv 11)) (pv 1) (by rfl))))) pa_nil)))))
      (pss_one (ps_ret (pe_cmpR op_ne (pe_ix ix_list (pv 9) pe_int (fun _ _ => rfl)) (pe_ix ix_list (pv 9) pe_int (fun _ _ => rfl)) (nomark _)))))))))
set_option maxHeartbeats 4000000 in
theorem ok_walk (T : Tx K mg) : FnOk P w K mg base (L2N.CX P w) 6 T.f_walk T.fd_walk ["grid", "cells"] (sp_walk K T.C) := by
  refine Sd.Fun.okN T.F_walk sc_walk (fun vs H Q E h => by obtain ⟨_, _, rfl, _⟩ := h; rfl) (fun cdv A outer s H vs Q E hr h => ⟨t_walk K T.C E, ?_, pure_walk rfl h⟩)
  exact (pss_cons (ps_expr (pe_call (ok_check_grid T) (hr.mono (by decide)) rfl T.g_check_grid T.F_check_grid.kp T.b_check_grid .nil (L2N.passes_call (L2N.takes_of rfl rfl rfl rfl) (fun _ _ _ _ h => h)) (pa_cons (pv 0) pa_nil)))
      (pss_cons (ps_expr (pe_call (ok_check_cells T) (hr.mono (by decide)) rfl T.g_check_cells T.F_check_cells.kp T.b_check_cells .nil (L2N.passes_call (L2N.takes_of rfl rfl rfl rfl) (fun _ _ _ _ h => h)) (pa_cons (pv 0) (pa_cons (pv 1) pa_nil))))
      (pss_cons (ps_if (pt_not (pt_val (pe_call (ok_is_ring T) (hr.mono (by decide)) rfl T.g_is_ring T.F_is_ring.kp T.b_is_ring .nil pass0 (pa_cons (pv 0) (pa_cons (pv 1) pa_nil))))) (pss_one (L2N.ps_raise rfl (L2N.takes_of rfl rfl rfl rfl) (L2N.pmk_own PySem.F.excBase_ValueError T.x_NoRing T.g_NoRing T.k_NoRing (raises_own T.e_NoRing T.y_NoRing) (by rfl)))) pss_nil)
      (pss_cons (ps_set (i := 2) sc_walk.nd rfl (.inl rfl) (pe_tup (pa_cons (pe_op op_fdiv (pe_ix ix_list (pv 1) pe_int (fun _ _ => rfl)) (pe_ix ix_tup (pv 0) pe_int (fun _ _ => rfl))) (pa_cons (pe_op op_mod (pe_ix ix_list (pv 1) pe_int (fun _ _ => rfl)) (pe_ix ix_tup (pv 0) pe_int (fun _ _ => rfl))) pa_nil))))
      (pss_cons (ps_set (i := 3) sc_walk.nd rfl (.inl rfl) (pe_tup (pa_cons (pe_tup (pa_cons pe_int (pa_cons pe_int pa_nil))) (pa_cons (pe_tup (pa_cons pe_int (pa_cons pe_int pa_nil))) (pa_cons (pe_tup (pa_cons pe_int (pa_cons (pe_un un_neg pe_int) pa_nil))) (pa_cons (pe_tup (pa_cons (pe_un un_neg pe_int) (pa_cons pe_int pa_nil))) pa_nil))))))
      (pss_cons (ps_par (i := 4) (j := 5) (by rfl) sc_walk.nd rfl rfl (by decide) rfl rfl (pa_cons (pe_lst (pa_cons (pv 2) pa_nil)) (pa_cons pe_int pa_nil)) (by rfl))
      (pss_cons (ps_set (i := 6) sc_walk.nd rfl (.inr rfl) (pe_tup (pa_cons (pe_ix ix_tup (pv 2) pe_int (fun _ _ => rfl)) (pa_cons (pe_op op_add (pe_ix ix_tup (pv 2) pe_int (fun _ _ => rfl)) pe_int) pa_nil))))
      (pss_cons (ps_while (passes_of rfl) (pt_cmpR (op_neD hr.units) (pv 6) (pv 2) (nomark _)) (pss_cons (ps_expr (pe_bm PySem.F.plainAttrs_list PySem.F.slot_list_append PySem.F.type_list_append mt_append (pv 4) (pa_cons (pv 6) pa_nil)))
      (pss_cons (ps_set (i := 7) sc_walk.nd rfl (.inr rfl) (pe_op op_mod (pe_op op_add (pv 5) pe_int) pe_int))
      (pss_cons (ps_set (i := 5) sc_walk.nd rfl (.inl rfl) (pe_ix ix_list (pe_lc (own := [("way", 8)]) (g := (gName 8)) (tt := (tAnd (tTest (tOp rNe (tVar 8) (tVar 7))) (tB (tCall (sp_side_ahead K) [] E0 (tCons (tVar 0) (tCons (tVar 1) (tCons (tVar 6) (tCons (tVar 8) tNil)))))))) (te := (tVar 8)) rfl sc_walk.nd (pi_range1 rfl T.n_range (pa_cons pe_int pa_nil)) (blkOk_by (own := [("way", 8)]) (by kernel_rfl)) (fun _ _ _ _ _ => (pg_name (i := 8) sc_walk.nd rfl (.inl rfl))) (fun _ _ _ _ _ => (pts_one (PW.pt (pw_and (pt_cmpR op_ne (pv 8) (pv 7) (nomark _)) (pw_and1 (pt_val (pe_call (ok_side_ahead T) (hr.mono (by decide)) rfl T.g_side_ahead T.F_side_ahead.kp T.b_side_ahead .nil pass0 (pa_cons (pv 0) (pa_cons (pv 1) (pa_cons (pv 6) (pa_cons (pv 8) pa_nil))))))))))) (fun _ _ _ _ _ => (pv 8))) pe_int (fun _ _ => rfl)))
      (pss_one (ps_set (i := 6) sc_walk.nd rfl (.inr rfl) (pe_tup (pa_cons (pe_op op_add (pe_ix ix_tup (pv 6) pe_int (fun _ _ => rfl)) (pe_ix ix_tup (pe_ix ix_tup (pv 3) (pv 5) (fun _ _ => rfl)) pe_int (fun _ _ => rfl))) (pa_cons (pe_op op_add (pe_ix ix_tup (pv 6) pe_int (fun _ _ => rfl)) (pe_ix ix_tup (pe_ix ix_tup (pv 3) (pv 5) (fun _ _ => rfl)) pe_int (fun _ _ => rfl))) pa_nil)))))))))
      (pss_one (ps_ret (pv 4)))))))))))
set_option maxHeartbeats 4000000 in
theorem ok_l_with_grid (T : Tx K mg) : FnOk P w K mg base (L2N.CX P w) 8 T.f_l_with_grid T.fd_l_with_grid ["_law_door", "_law_thing"] (sp_l_with_grid K T.C) := by
  refine Sd.Fun.okN T.F_l_with_grid sc_l_with_grid (fun vs H Q E h => by obtain ⟨_, _, rfl, _⟩ := h; rfl) (fun cdv A outer s H vs Q E hr h => ⟨t_l_with_grid K T.C E, ?_, pure_l_with_grid rfl rfl h⟩)
  exact (pss_cons (ps_if (pt_cmpR op_lt (pv 0) pe_int (nomark _)) (pss_one (ps_ret (pe_ifExp (pt_cmpR op_eq (pv 0) pe_int (nomark _)) (pe_call (ok_rings T) (hr.mono (by decide)) rfl T.g_rings T.F_rings.kp T.b_rings .nil (L2N.passes_call (L2N.takes_of rfl rfl rfl rfl) (fun _ _ _ _ h => h)) (pa_cons (pv 1) pa_nil)) (pe_call (ok_numbers T) (hr.mono (by decide)) rfl T.g_numbers T.F_numbers.kp T.b_numbers .nil (L2N.passes_call (L2N.takes_of rfl rfl rfl rfl) (fun _ _ _ _ h => h)) (pa_cons (pv 1) (pa_cons pe_non pa_nil)))))) pss_nil)
      (pss_one (ps_ret (pe_ifExp (pt_cmpR op_eq (pv 0) pe_int (nomark _)) (pe_call (ok_judged T) (hr.mono (by decide)) rfl T.g_judged T.F_judged.kp T.b_judged .nil (L2N.passes_call (L2N.takes_of rfl rfl rfl rfl) (fun _ _ _ _ h => h)) (pa_cons (pv 1) (pa_cons pe_non pa_nil))) (pe_call (ok_walk T) (hr.mono (by decide)) rfl T.g_walk T.F_walk.kp T.b_walk .nil (L2N.passes_call (L2N.takes_of rfl rfl rfl rfl) (fun _ _ _ _ h => h)) (pa_cons (pv 1) (pa_cons pe_non pa_nil)))))))
set_option maxHeartbeats 4000000 in
theorem ok_l_no_grids (T : Tx K mg) : FnOk P w K mg base CX0 1 T.f_l_no_grids T.fd_l_no_grids ["_law_cell"] (sp_l_no_grids K) := by
  refine T.F_l_no_grids.ok sc_l_no_grids (fun vs H Q E h => by obtain ⟨_, rfl, _⟩ := h; rfl) (fun cdv A outer s H vs Q E hr h => ⟨t_l_no_grids K, ?_, pure_l_no_grids rfl rfl h⟩)
  exact (pss_cons (ps_set (i := 1) sc_l_no_grids.nd rfl (.inl rfl) (pe_lst (pa_cons pe_non (pa_cons pe_int (pa_cons (pe_un un_neg pe_int) (pa_cons (pe_op op_sub (pe_un un_neg pe_int) (pv 0)) (pa_cons pe_int (pa_cons (pe_op op_add pe_int (pv 0)) (pa_cons pe_bl (pa_cons pe_bl (pa_cons pe_str (pa_cons (pe_lst (pa_cons pe_int pa_nil)) (pa_cons (pe_tup (pa_cons pe_int pa_nil)) pa_nil)))))))))))))
      (pss_cons (ps_set (i := 2) sc_l_no_grids.nd rfl (.inl rfl) (pe_lst (pa_cons pe_non (pa_cons pe_int (pa_cons (pe_tup pa_nil) (pa_cons (pe_tup (pa_cons pe_int pa_nil)) (pa_cons (pe_tup (pa_cons pe_int (pa_cons pe_int (pa_cons pe_int pa_nil)))) (pa_cons (pe_lst (pa_cons pe_int (pa_cons pe_int pa_nil))) (pa_cons pe_str (pa_cons pe_dnewK pa_nil))))))))))
      (pss_one (ps_ret (pe_op op_cat (pe_op op_cat (pv 2) (pe_lc (own := [("_law_one", 3)]) (g := (gName 3)) (tt := tYes) (te := (tTup (tCons (tVar 3) (tCons (tC (.int 2)) tNil)))) rfl sc_l_no_grids.nd (pi_list (pv 1)) (blkOk_by (own := [("_law_one", 3)]) (by kernel_rfl)) (fun _ _ _ _ _ => (pg_name (i := 3) sc_l_no_grids.nd rfl (.inl rfl))) (fun _ _ _ _ _ => pts_nil) (fun _ _ _ _ _ => (pe_tup (pa_cons (pv 3) (pa_cons pe_int pa_nil)))))) (pe_lc (own := [("_law_one", 3)]) (g := (gName 3)) (tt := tYes) (te := (tTup (tCons (tC (.int 2)) (tCons (tVar 3) tNil)))) rfl sc_l_no_grids.nd (pi_list (pv 1)) (blkOk_by (own := [("_law_one", 3)]) (by kernel_rfl)) (fun _ _ _ _ _ => (pg_name (i := 3) sc_l_no_grids.nd rfl (.inl rfl))) (fun _ _ _ _ _ => pts_nil) (fun _ _ _ _ _ => (pe_tup (pa_cons pe_int (pa_cons (pv 3) pa_nil))))))))))
set_option maxHeartbeats 4000000 in
theorem ok_l_with_great (T : Tx K mg) : FnOk P w K mg base (L2N.CX P w) 8 T.f_l_with_great T.fd_l_with_great ["_law_door", "_law_thing"] (sp_l_with_great K T.C) := by
  refine Sd.Fun.okN T.F_l_with_great sc_l_with_great (fun vs H Q E h => by obtain ⟨_, _, rfl, _⟩ := h; rfl) (fun cdv A outer s H vs Q E hr h => ⟨t_l_with_great K T.C E, ?_, pure_l_with_great rfl rfl h⟩)
  exact (pss_one (ps_ret (pe_call (ok_rings T) (hr.mono (by decide)) rfl T.g_rings T.F_rings.kp T.b_rings .nil (L2N.passes_call (L2N.takes_of rfl rfl rfl rfl) (fun _ _ _ _ h => h)) (pa_cons (pv 1) pa_nil))))
set_option maxHeartbeats 4000000 in
theorem ok_l_great (T : Tx K mg) : FnOk P w K mg base CX0 1 T.f_l_great T.fd_l_great ["_law_cell"] (sp_l_great K) := by
  refine T.F_l_great.ok sc_l_great (fun vs H Q E h => by obtain ⟨_, rfl, _⟩ := h; rfl) (fun cdv A outer s H vs Q E hr h => ⟨t_l_great K, ?_, pure_l_great rfl rfl h⟩)
  exact (pss_one (ps_ret (pe_lst (pa_cons (pe_tup (pa_cons pe_int (pa_cons pe_int pa_nil))) (pa_cons (pe_tup (pa_cons pe_int (pa_cons pe_int pa_nil))) (pa_cons (pe_tup (pa_cons pe_int (pa_cons pe_int pa_nil))) (pa_cons (pe_tup (pa_cons pe_int (pa_cons (pe_op op_add pe_int (pe_op op_mod (pv 0) pe_int)) pa_nil))) (pa_cons (pe_tup (pa_cons pe_int (pa_cons pe_int pa_nil))) pa_nil))))))))
set_option maxHeartbeats 4000000 in
theorem ok_l_with_cells (T : Tx K mg) : FnOk P w K mg base (L2N.CX P w) 7 T.f_l_with_cells T.fd_l_with_cells ["_law_door", "_law_thing"] (sp_l_with_cells K T.C) := by
  refine Sd.Fun.okN T.F_l_with_cells sc_l_with_cells (fun vs H Q E h => by obtain ⟨_, _, rfl, _⟩ := h; rfl) (fun cdv A outer s H vs Q E hr h => ⟨t_l_with_cells K T.C E, ?_, pure_l_with_cells rfl rfl h⟩)
  exact (pss_cons (ps_if (pt_cmpR op_eq (pv 0) pe_int (nomark _)) (pss_one (ps_ret (pe_call (ok_numbers T) (hr.mono (by decide)) rfl T.g_numbers T.F_numbers.kp T.b_numbers .nil (L2N.passes_call (L2N.takes_of rfl rfl rfl rfl) (fun _ _ _ _ h => h)) (pa_cons (pe_tup (pa_cons pe_int (pa_cons pe_int pa_nil))) (pa_cons (pv 1) pa_nil))))) pss_nil)
      (pss_one (ps_ret (pe_ifExp (pt_cmpR op_eq (pv 0) pe_int (nomark _)) (pe_call (ok_judged T) (hr.mono (by decide)) rfl T.g_judged T.F_judged.kp T.b_judged .nil (L2N.passes_call (L2N.takes_of rfl rfl rfl rfl) (fun _ _ _ _ h => h)) (pa_cons (pe_tup (pa_cons pe_int (pa_cons pe_int pa_nil))) (pa_cons (pv 1) pa_nil))) (pe_call (ok_walk T) (hr.mono (by decide)) rfl T.g_walk T.F_walk.kp T.b_walk .nil (L2N.passes_call (L2N.takes_of rfl rfl rfl rfl) (fun _ _ _ _ h => h)) (pa_cons (pe_tup (pa_cons pe_int (pa_cons pe_int pa_nil))) (pa_cons (pv 1) pa_nil)))))))
set_option maxHeartbeats 4000000 in
theorem ok_l_no_cells (T : Tx K mg) : FnOk P w K mg base CX0 1 T.f_l_no_cells T.fd_l_no_cells ["_law_cell"] (sp_l_no_cells K) := by
  refine T.F_l_no_cells.ok sc_l_no_cells (fun vs H Q E h => by obtain ⟨_, rfl, _⟩ := h; rfl) (fun cdv A outer s H vs Q E hr h => ⟨t_l_no_cells K, ?_, pure_l_no_cells rfl rfl h⟩)
  exact (pss_cons (ps_set (i := 1) sc_l_no_cells.nd rfl (.inl rfl) (pe_lst (pa_cons pe_non (pa_cons (pe_un un_neg pe_int) (pa_cons (pe_op op_sub (pe_un un_neg pe_int) (pv 0)) (pa_cons pe_int (pa_cons (pe_op op_add pe_int (pv 0)) (pa_cons pe_bl (pa_cons pe_bl (pa_cons pe_str (pa_cons (pe_lst (pa_cons pe_int pa_nil)) (pa_cons (pe_tup (pa_cons pe_int pa_nil)) pa_nil))))))))))))
      (pss_cons (ps_set (i := 2) sc_l_no_cells.nd rfl (.inl rfl) (pe_lst (pa_cons pe_non (pa_cons (pe_tup pa_nil) (pa_cons (pe_tup (pa_cons pe_int (pa_cons pe_int pa_nil))) (pa_cons pe_str (pa_cons pe_int (pa_cons pe_dnewK (pa_cons (pe_lst pa_nil) (pa_cons (pe_lst (pa_cons pe_int (pa_cons pe_int pa_nil))) (pa_cons (pe_lst (pa_cons pe_int (pa_cons pe_int pa_nil))) (pa_cons (pe_lst (pa_cons pe_int (pa_cons pe_int (pa_cons pe_int pa_nil)))) pa_nil))))))))))))
      (pss_one (ps_ret (pe_op op_cat (pe_op op_cat (pv 2) (pe_lc (own := [("_law_one", 3)]) (g := (gName 3)) (tt := tYes) (te := (tLst (tCons (tVar 3) tNil))) rfl sc_l_no_cells.nd (pi_list (pv 1)) (blkOk_by (own := [("_law_one", 3)]) (by kernel_rfl)) (fun _ _ _ _ _ => (pg_name (i := 3) sc_l_no_cells.nd rfl (.inl rfl))) (fun _ _ _ _ _ => pts_nil) (fun _ _ _ _ _ => (pe_lst (pa_cons (pv 3) pa_nil))))) (pe_lc (own := [("_law_one", 3)]) (g := (gName 3)) (tt := tYes) (te := (tLst (tCons (tC (.int 0)) (tCons (tVar 3) tNil)))) rfl sc_l_no_cells.nd (pi_list (pv 1)) (blkOk_by (own := [("_law_one", 3)]) (by kernel_rfl)) (fun _ _ _ _ _ => (pg_name (i := 3) sc_l_no_cells.nd rfl (.inl rfl))) (fun _ _ _ _ _ => pts_nil) (fun _ _ _ _ _ => (pe_lst (pa_cons pe_int (pa_cons (pv 3) pa_nil))))))))))
set_option maxHeartbeats 4000000 in
theorem ok_check_clues (T : Tx K mg) : FnOk P w K mg base (L2N.CX P w) 2 T.f_check_clues T.fd_check_clues ["clues"] (sp_check_clues K T.C) := by
  refine Sd.Fun.okN T.F_check_clues sc_check_clues (fun vs H Q E h => by obtain ⟨_, rfl, _⟩ := h; rfl) (fun cdv A outer s H vs Q E hr h => ⟨t_check_clues K T.C E, ?_, pure_check_clues rfl h⟩)
  exact (pss_cons (ps_if (PW.pt (pw_or (pt_not (pt_val (pe_callB call_isi (by rfl) T.n_isinstance (by decide +kernel) (pa_cons (pv 0) (pa_cons (pe_bltn (v := .ty "list") (by rfl) T.n_list (by decide +kernel) rfl) pa_nil))))) (pw_or (pt_not (pt_chain op_le op_le pe_int (pe_callB call_len_seq (by rfl) T.n_len (by decide +kernel) (pa_cons (pv 0) pa_nil)) (pe_glob rfl T.g_MOST ⟨_, rfl⟩))) (pw_or1 (pt_not (pt_val (pe_callB (cr_all rfl) (by rfl) T.n_all (by decide +kernel) (pa_cons (pe_lc (own := [("row", 2)]) (g := (gName 2)) (tt := tYes) (te := (tCB (rIsi K) (tCons (tVar 2) (tCons (tC (.ty "list")) tNil)))) rfl sc_check_clues.nd (pi_list (pv 0)) (blkOk_by (own := [("row", 2)]) (by kernel_rfl)) (fun _ _ _ _ _ => (pg_name (i := 2) sc_check_clues.nd rfl (.inl rfl))) (fun _ _ _ _ _ => pts_nil) (fun _ _ _ _ _ => (pe_callB call_isi (by rfl) T.n_isinstance (by decide +kernel) (pa_cons (pv 2) (pa_cons (pe_bltn (v := .ty "list") (by rfl) T.n_list (by decide +kernel) rfl) pa_nil))))) pa_nil)))))))) (pss_one (L2N.ps_raise rfl (L2N.takes_of rfl rfl rfl rfl) (L2N.pmk_own PySem.F.excBase_ValueError T.x_BadClues T.g_BadClues T.k_BadClues (raises_own T.e_BadClues T.y_BadClues) (by rfl)))) pss_nil)
      (pss_cons (ps_set (i := 1) sc_check_clues.nd rfl (.inr rfl) (pe_callB call_len_seq (by rfl) T.n_len (by decide +kernel) (pa_cons (pe_ix ix_list (pv 0) pe_int (fun _ _ => rfl)) pa_nil)))
      (pss_cons (ps_if (PW.pt (pw_or (pt_not (pt_chain op_le op_le pe_int (pv 1) (pe_glob rfl T.g_MOST ⟨_, rfl⟩))) (pw_or (pt_cmpR op_gt (pe_op op_mul (pe_callB call_len_seq (by rfl) T.n_len (by decide +kernel) (pa_cons (pv 0) pa_nil)) (pv 1)) (pe_glob rfl T.g_FEW ⟨_, rfl⟩) (nomark _)) (pw_or1 (pt_not (pt_val (pe_callB (cr_all rfl) (by rfl) T.n_all (by decide +kernel) (pa_cons (pe_lc (own := [("row", 2)]) (g := (gName 2)) (tt := tYes) (te := (tOp rEq (tCB (rLenS K) (tCons (tVar 2) tNil)) (tVar 1))) rfl sc_check_clues.nd (pi_list (pv 0)) (blkOk_by (own := [("row", 2)]) (by kernel_rfl)) (fun _ _ _ _ _ => (pg_name (i := 2) sc_check_clues.nd rfl (.inl rfl))) (fun _ _ _ _ _ => pts_nil) (fun _ _ _ _ _ => (pe_cmpR op_eq (pe_callB call_len_seq (by rfl) T.n_len (by decide +kernel) (pa_cons (pv 2) pa_nil)) (pv 1) (nomark _)))) pa_nil)))))))) (pss_one (L2N.ps_raise rfl (L2N.takes_of rfl rfl rfl rfl) (L2N.pmk_own PySem.F.excBase_ValueError T.x_BadClues T.g_BadClues T.k_BadClues (raises_own T.e_BadClues T.y_BadClues) (by rfl)))) pss_nil)
      (pss_one (ps_if (pt_not (pt_val (pe_callB (cr_all rfl) (by rfl) T.n_all (by decide +kernel) (pa_cons (pe_lc (own := [("row", 2)]) (g := (gName 2)) (tt := tYes) (te := (tCB (rAll K) (tCons (tLc (iList K (tVar 2)) (gName 3) tYes (tAndV (tCall (sp_is_whole K) [] E0 (tCons (tVar 3) tNil)) (tChain oLe oLe (tUn oNeg (tC (.int 1))) (tVar 3) (tC (.int 4)))) [3]) tNil))) rfl sc_check_clues.nd (pi_list (pv 0)) (blkOk_by (own := [("row", 2)]) (by kernel_rfl)) (fun _ _ _ _ _ => (pg_name (i := 2) sc_check_clues.nd rfl (.inl rfl))) (fun _ _ _ _ _ => pts_nil) (fun _ _ _ _ _ => (pe_callB (cr_all rfl) (by rfl) T.n_all (by decide +kernel) (pa_cons (pe_lc (own := [("clue", 3)]) (g := (gName 3)) (tt := tYes) (te := (tAndV (tCall (sp_is_whole K) [] E0 (tCons (tVar 3) tNil)) (tChain oLe oLe (tUn oNeg (tC (.int 1))) (tVar 3) (tC (.int 4))))) rfl sc_check_clues.nd (pi_list (pv 2)) (blkOk_by (own := [("clue", 3)]) (by kernel_rfl)) (fun _ _ _ _ _ => (pg_name (i := 3) sc_check_clues.nd rfl (.inl rfl))) (fun _ _ _ _ _ => pts_nil) (fun _ _ _ _ _ => (pe_and (pe_call (ok_is_whole T) (hr.mono (by decide)) rfl T.g_is_whole T.F_is_whole.kp T.b_is_whole .nil pass0 (pa_cons (pv 3) pa_nil)) (pe_one (pe_chain op_le op_le (pe_un un_neg pe_int) (pv 3) pe_int))))) pa_nil)))) pa_nil)))) (pss_one (L2N.ps_raise rfl (L2N.takes_of rfl rfl rfl rfl) (L2N.pmk_own PySem.F.excBase_ValueError T.x_BadClues T.g_BadClues T.k_BadClues (raises_own T.e_BadClues T.y_BadClues) (by rfl)))) pss_nil)))))
set_option maxHeartbeats 4000000 in
theorem ok_fits (T : Tx K mg) : FnOk P w K mg base CX0 4 T.f_fits T.fd_fits ["clues", "cells"] (sp_fits K) := by
  refine T.F_fits.ok sc_fits (fun vs H Q E h => by obtain ⟨_, _, _, _, rfl, _⟩ := h; rfl) (fun cdv A outer s H vs Q E hr h => ⟨t_fits K, ?_, pure_fits rfl h⟩)
  exact (pss_cons (ps_set (i := 2) sc_fits.nd rfl (.inl rfl) (pe_call (ok_numbers_of T) (hr.mono (by decide)) rfl T.g_numbers_of T.F_numbers_of.kp T.b_numbers_of .nil pass0 (pa_cons (pe_tup (pa_cons (pe_callB call_len_seq (by rfl) T.n_len (by decide +kernel) (pa_cons (pv 0) pa_nil)) (pa_cons (pe_callB call_len_seq (by rfl) T.n_len (by decide +kernel) (pa_cons (pe_ix ix_list (pv 0) pe_int (fun _ _ => rfl)) pa_nil)) pa_nil))) (pa_cons (pv 1) pa_nil))))
      (pss_cons (ps_for PassesOwn.never rfl (pi_zip (by rfl) T.n_zip (pa_cons (pv 0) (pa_cons (pv 2) pa_nil))) (pg_tup rfl (pgs_cons (pg_name (i := 3) sc_fits.nd rfl (.inl rfl)) (pgs_cons (pg_name (i := 4) sc_fits.nd rfl (.inl rfl)) pgs_nil))) (pss_one (ps_if (pt_val (pe_callB (cr_any rfl) (by rfl) T.n_any (by decide +kernel) (pa_cons (pe_lc (own := [("clue", 5), ("number", 6)]) (g := (gTup K 2 (gCons (gName 5) (gCons (gName 6) gNil)))) (tt := tYes) (te := (tAndV (tOp oGe (tVar 5) (tC (.int 0))) (tOp rNe (tVar 5) (tVar 6)))) rfl sc_fits.nd (pi_zip (by rfl) T.n_zip (pa_cons (pv 3) (pa_cons (pv 4) pa_nil))) (blkOk_by (own := [("clue", 5), ("number", 6)]) (by kernel_rfl)) (fun _ _ _ _ _ => (pg_tup rfl (pgs_cons (pg_name (i := 5) sc_fits.nd rfl (.inl rfl)) (pgs_cons (pg_name (i := 6) sc_fits.nd rfl (.inl rfl)) pgs_nil)))) (fun _ _ _ _ _ => pts_nil) (fun _ _ _ _ _ => (pe_and (pe_cmpR op_ge (pv 5) pe_int (nomark _)) (pe_one (pe_cmpR op_ne (pv 5) (pv 6) (nomark _)))))) pa_nil))) (pss_one (ps_ret pe_bl)) pss_nil)))
      (pss_one (ps_ret pe_bl))))
set_option maxHeartbeats 4000000 in
theorem ok_fitting_of (T : Tx K mg) : FnOk P w K mg base CX0 7 T.f_fitting_of T.fd_fitting_of ["clues"] (sp_fitting_of K) := by
  refine T.F_fitting_of.ok sc_fitting_of (fun vs H Q E h => by obtain ⟨_, _, rfl, _⟩ := h; rfl) (fun cdv A outer s H vs Q E hr h => ⟨t_fitting_of K, ?_, pure_fitting_of rfl h⟩)
  exact (pss_one (ps_ret (pe_lc (own := [("cells", 1)]) (g := (gName 1)) (tt := (tB (tCall (sp_fits K) [] E0 (tCons (tVar 0) (tCons (tVar 1) tNil))))) (te := (tVar 1)) rfl sc_fitting_of.nd (pi_list (pe_call (ok_all_rings T) (hr.mono (by decide)) rfl T.g_all_rings T.F_all_rings.kp T.b_all_rings .nil pass0 (pa_cons (pe_tup (pa_cons (pe_callB call_len_seq (by rfl) T.n_len (by decide +kernel) (pa_cons (pv 0) pa_nil)) (pa_cons (pe_callB call_len_seq (by rfl) T.n_len (by decide +kernel) (pa_cons (pe_ix ix_list (pv 0) pe_int (fun _ _ => rfl)) pa_nil)) pa_nil))) pa_nil))) (blkOk_by (own := [("cells", 1)]) (by kernel_rfl)) (fun _ _ _ _ _ => (pg_name (i := 1) sc_fitting_of.nd rfl (.inl rfl))) (fun _ _ _ _ _ => (pts_one (pt_val (pe_call (ok_fits T) (hr.mono (by decide)) rfl T.g_fits T.F_fits.kp T.b_fits .nil pass0 (pa_cons (pv 0) (pa_cons (pv 1) pa_nil)))))) (fun _ _ _ _ _ => (pv 1)))))
set_option maxHeartbeats 4000000 in
theorem ok_fitting (T : Tx K mg) : FnOk P w K mg base (L2N.CX P w) 8 T.f_fitting T.fd_fitting ["clues"] (sp_fitting K T.C) := by
  refine Sd.Fun.okN T.F_fitting sc_fitting (fun vs H Q E h => by obtain ⟨_, rfl, _⟩ := h; rfl) (fun cdv A outer s H vs Q E hr h => ⟨t_fitting K T.C E, ?_, pure_fitting rfl h⟩)
  exact (pss_cons (ps_expr (pe_call (ok_check_clues T) (hr.mono (by decide)) rfl T.g_check_clues T.F_check_clues.kp T.b_check_clues .nil (L2N.passes_call (L2N.takes_of rfl rfl rfl rfl) (fun _ _ _ _ h => h)) (pa_cons (pv 0) pa_nil)))
      (pss_one (ps_ret (pe_call (ok_fitting_of T) (hr.mono (by decide)) rfl T.g_fitting_of T.F_fitting_of.kp T.b_fitting_of .nil pass0 (pa_cons (pv 0) pa_nil)))))
set_option maxHeartbeats 4000000 in
theorem ok_One_init (T : Tx K mg) : FnOk P w K mg base CX0 1 T.f_One_init T.fd_One_init ["self", "cells"] (sp_One_init K T.C) := by
  refine T.F_One_init.ok sc_One_init (fun vs H Q E h => by obtain ⟨_, _, _, _, rfl, _⟩ := h; rfl) (fun cdv A outer s H vs Q E hr h => ⟨t_One_init K, ?_, pure_One_init rfl T.cf_One h⟩)
  exact (pss_one (ps_fld (pv 0) (pe_callTy call_list_of (by rfl) T.n_list (by decide +kernel) (pa_cons (pv 1) pa_nil)) rfl))
set_option maxHeartbeats 4000000 in
theorem ok_Two_init (T : Tx K mg) : FnOk P w K mg base CX0 1 T.f_Two_init T.fd_Two_init ["self", "one", "other"] (sp_Two_init K T.C) := by
  refine T.F_Two_init.ok sc_Two_init (fun vs H Q E h => by obtain ⟨_, _, _, _, _, _, rfl, _⟩ := h; rfl) (fun cdv A outer s H vs Q E hr h => ⟨t_Two_init K, ?_, pure_Two_init rfl T.cf_Two h⟩)
  exact (pss_cons (ps_fld (pv 0) (pe_callTy call_list_of (by rfl) T.n_list (by decide +kernel) (pa_cons (pv 1) pa_nil)) rfl)
      (pss_one (ps_fld (pv 0) (pe_callTy call_list_of (by rfl) T.n_list (by decide +kernel) (pa_cons (pv 2) pa_nil)) rfl)))
set_option maxHeartbeats 4000000 in
theorem ok_told (T : Tx K mg) : FnOk P w K mg base (L2N.CX P w) 8 T.f_told T.fd_told ["clues"] (sp_told K T.C) := by
  refine Sd.Fun.okN T.F_told sc_told (fun vs H Q E h => by obtain ⟨_, rfl, _⟩ := h; rfl) (fun cdv A outer s H vs Q E hr h => ⟨t_told K T.C E, ?_, pure_told rfl h⟩)
  exact (pss_cons (ps_expr (pe_call (ok_check_clues T) (hr.mono (by decide)) rfl T.g_check_clues T.F_check_clues.kp T.b_check_clues .nil (L2N.passes_call (L2N.takes_of rfl rfl rfl rfl) (fun _ _ _ _ h => h)) (pa_cons (pv 0) pa_nil)))
      (pss_cons (ps_set (i := 1) sc_told.nd rfl (.inl rfl) (pe_call (ok_fitting_of T) (hr.mono (by decide)) rfl T.g_fitting_of T.F_fitting_of.kp T.b_fitting_of .nil pass0 (pa_cons (pv 0) pa_nil)))
      (pss_cons (ps_if (pt_cmpR (op_eqD hr.units) (pv 1) (pe_lst pa_nil) (nomark _)) (pss_one (ps_ret (pe_bare T.m_Never (by rfl) T.g_Never))) pss_nil)
      (pss_one (ps_ret (pe_ifExp (pt_cmpR op_eq (pe_callB call_len_seq (by rfl) T.n_len (by decide +kernel) (pa_cons (pv 1) pa_nil)) pe_int (nomark _)) (pe_make T.m_One (ok_One_init T) (hr.mono (by decide)) (by rfl) T.g_One T.b_One_init .nil pass0 (pa_cons (pe_ix ix_list (pv 1) pe_int (fun _ _ => rfl)) pa_nil)) (pe_make T.m_Two (ok_Two_init T) (hr.mono (by decide)) (by rfl) T.g_Two T.b_Two_init .nil pass0 (pa_cons (pe_ix ix_list (pv 1) pe_int (fun _ _ => rfl)) (pa_cons (pe_ix ix_list (pv 1) pe_int (fun _ _ => rfl)) pa_nil)))))))))
set_option maxHeartbeats 4000000 in
theorem ok_l_with_clues (T : Tx K mg) : FnOk P w K mg base (L2N.CX P w) 9 T.f_l_with_clues T.fd_l_with_clues ["_law_door", "_law_thing"] (sp_l_with_clues K T.C) := by
  refine Sd.Fun.okN T.F_l_with_clues sc_l_with_clues (fun vs H Q E h => by obtain ⟨_, _, rfl, _⟩ := h; rfl) (fun cdv A outer s H vs Q E hr h => ⟨t_l_with_clues K T.C E, ?_, pure_l_with_clues rfl rfl h⟩)
  exact (pss_one (ps_ret (pe_ifExp (pt_cmpR op_eq (pv 0) pe_int (nomark _)) (pe_call (ok_fitting T) (hr.mono (by decide)) rfl T.g_fitting T.F_fitting.kp T.b_fitting .nil (L2N.passes_call (L2N.takes_of rfl rfl rfl rfl) (fun _ _ _ _ h => h)) (pa_cons (pv 1) pa_nil)) (pe_call (ok_told T) (hr.mono (by decide)) rfl T.g_told T.F_told.kp T.b_told .nil (L2N.passes_call (L2N.takes_of rfl rfl rfl rfl) (fun _ _ _ _ h => h)) (pa_cons (pv 1) pa_nil)))))
set_option maxHeartbeats 4000000 in
theorem ok_l_no_clues (T : Tx K mg) : FnOk P w K mg base CX0 1 T.f_l_no_clues T.fd_l_no_clues ["_law_cell"] (sp_l_no_clues K) := by
  refine T.F_l_no_clues.ok sc_l_no_clues (fun vs H Q E h => by obtain ⟨_, rfl, _⟩ := h; rfl) (fun cdv A outer s H vs Q E hr h => ⟨t_l_no_clues K, ?_, pure_l_no_clues rfl rfl h⟩)
  exact (pss_cons (ps_set (i := 1) sc_l_no_clues.nd rfl (.inl rfl) (pe_lst (pa_cons pe_non (pa_cons (pe_un un_neg pe_int) (pa_cons (pe_op op_sub (pe_un un_neg pe_int) (pv 0)) (pa_cons pe_int (pa_cons (pe_op op_add pe_int (pv 0)) (pa_cons pe_bl (pa_cons pe_bl (pa_cons pe_str (pa_cons (pe_lst (pa_cons pe_int pa_nil)) (pa_cons (pe_tup (pa_cons pe_int pa_nil)) pa_nil))))))))))))
      (pss_cons (ps_set (i := 2) sc_l_no_clues.nd rfl (.inl rfl) (pe_lst (pa_cons pe_non (pa_cons (pe_tup pa_nil) (pa_cons (pe_tup (pa_cons (pe_lst (pa_cons pe_int pa_nil)) pa_nil)) (pa_cons pe_str (pa_cons pe_int (pa_cons pe_dnewK (pa_cons (pe_lst pa_nil) (pa_cons (pe_lst (pa_cons (pe_lst pa_nil) pa_nil)) (pa_cons (pe_lst (pa_cons (pe_lst pa_nil) (pa_cons (pe_lst pa_nil) pa_nil))) (pa_cons (pe_lst (pa_cons (pe_lst (pa_cons pe_int pa_nil)) (pa_cons (pe_lst (pa_cons pe_int (pa_cons pe_int pa_nil))) pa_nil))) (pa_cons (pe_lst (pa_cons (pe_op op_rep (pe_lst (pa_cons pe_int pa_nil)) pe_int) pa_nil)) (pa_cons (pe_op op_rep (pe_lst (pa_cons (pe_op op_rep (pe_lst (pa_cons pe_int pa_nil)) pe_int) pa_nil)) pe_int) (pa_cons (pe_op op_rep (pe_lst (pa_cons (pe_lst (pa_cons pe_int pa_nil)) pa_nil)) pe_int) pa_nil)))))))))))))))
      (pss_cons (ps_set (i := 2) sc_l_no_clues.nd rfl (.inl rfl) (pe_op op_cat (pv 2) (pe_lst (pa_cons (pe_lst (pa_cons (pe_op op_rep (pe_lst (pa_cons pe_int pa_nil)) pe_int) pa_nil)) (pa_cons (pe_lst (pa_cons (pe_lst (pa_cons pe_int pa_nil)) (pa_cons pe_non pa_nil))) (pa_cons (pe_lst (pa_cons (pe_tup (pa_cons pe_int (pa_cons pe_int pa_nil))) pa_nil)) (pa_cons (pe_lst (pa_cons (pe_lst (pa_cons pe_int (pa_cons pe_int pa_nil))) (pa_cons (pe_lst (pa_cons pe_int pa_nil)) pa_nil))) (pa_cons (pe_lst (pa_cons (pe_op op_rep (pe_lst (pa_cons pe_int pa_nil)) (pe_op op_add pe_int (pe_op op_mod (pv 0) pe_int))) pa_nil)) pa_nil))))))))
      (pss_one (ps_ret (pe_op op_cat (pe_op op_cat (pv 2) (pe_lc (own := [("_law_one", 3)]) (g := (gName 3)) (tt := tYes) (te := (tLst (tCons (tLst (tCons (tVar 3) tNil)) tNil))) rfl sc_l_no_clues.nd (pi_list (pv 1)) (blkOk_by (own := [("_law_one", 3)]) (by kernel_rfl)) (fun _ _ _ _ _ => (pg_name (i := 3) sc_l_no_clues.nd rfl (.inl rfl))) (fun _ _ _ _ _ => pts_nil) (fun _ _ _ _ _ => (pe_lst (pa_cons (pe_lst (pa_cons (pv 3) pa_nil)) pa_nil))))) (pe_lc (own := [("_law_one", 3)]) (g := (gName 3)) (tt := tYes) (te := (tLst (tCons (tLst (tCons (tC (.int 0)) (tCons (tC (.int 1)) tNil))) (tCons (tLst (tCons (tVar 3) (tCons (tC (.int 2)) tNil))) tNil)))) rfl sc_l_no_clues.nd (pi_list (pv 1)) (blkOk_by (own := [("_law_one", 3)]) (by kernel_rfl)) (fun _ _ _ _ _ => (pg_name (i := 3) sc_l_no_clues.nd rfl (.inl rfl))) (fun _ _ _ _ _ => pts_nil) (fun _ _ _ _ _ => (pe_lst (pa_cons (pe_lst (pa_cons pe_int (pa_cons pe_int pa_nil))) (pa_cons (pe_lst (pa_cons (pv 3) (pa_cons pe_int pa_nil))) pa_nil)))))))))))
set_option maxHeartbeats 4000000 in
theorem ok_l_alone (T : Tx K mg) : FnHP P w K mg base CX0 1 T.f_l_alone T.fd_l_alone ["_law_error", "_law_due"] (sp_l_alone K T.C) := by
  refine Sd.Fun.okHP T.F_l_alone sc_l_alone (fun a c d vs H Q E h => by obtain ⟨_, rfl, _⟩ := h; rfl) (fun cdv A outer s H vs Q E p cls d hot hz hr h => ⟨t_l_alone K T.C p.1 cls d, ?_, pure_l_alone rfl rfl T.ex_BadGrid T.ex_BadCells T.ex_BadClues T.ki_BadGrid_BadGrid T.ki_BadGrid_BadCells T.ki_BadGrid_BadClues T.ki_BadGrid_NoRing T.ki_BadCells_BadGrid T.ki_BadCells_BadCells T.ki_BadCells_BadClues T.ki_BadCells_NoRing T.ki_BadClues_BadGrid T.ki_BadClues_BadCells T.ki_BadClues_BadClues T.ki_BadClues_NoRing T.kv_BadGrid T.kv_BadCells T.kv_BadClues h⟩)
  exact (pss_cons (ps_set (i := 2) sc_l_alone.nd rfl (.inl rfl) (pe_lst (pa_cons (pe_callB (call_isP List.mem_cons_self hz.zc (hot_flds hot)) (by rfl) T.n_isinstance (by decide +kernel) (pa_cons (pv 0) (pa_cons (pe_glob rfl T.g_BadGrid rfl) pa_nil))) (pa_cons (pe_callB (call_isP List.mem_cons_self hz.zc (hot_flds hot)) (by rfl) T.n_isinstance (by decide +kernel) (pa_cons (pv 0) (pa_cons (pe_glob rfl T.g_BadCells rfl) pa_nil))) (pa_cons (pe_callB (call_isP List.mem_cons_self hz.zc (hot_flds hot)) (by rfl) T.n_isinstance (by decide +kernel) (pa_cons (pv 0) (pa_cons (pe_glob rfl T.g_BadClues rfl) pa_nil))) pa_nil)))))
      (pss_one (ps_ret (pe_and (pe_cmpR (op_eqD hr.units) (pe_op op_cat (pv 2) (pe_lst (pa_cons (pe_callB (call_isP List.mem_cons_self hz.zc (hot_flds hot)) (by rfl) T.n_isinstance (by decide +kernel) (pa_cons (pv 0) (pa_cons (pe_glob rfl T.g_NoRing rfl) pa_nil))) pa_nil))) (pe_lcH (own := [("_law_k", 3)]) (g := (gName 3)) (tt := tYes) (te := (tOp rEq (tVar 3) (tVar 1))) ⟨p, hot, List.mem_cons_self⟩ sc_l_alone.nd (L2H.pi_range1H rfl T.n_range (pa_cons pe_int pa_nil)) (blkOk_by (own := [("_law_k", 3)]) (by kernel_rfl)) (fun _ _ _ _ _ => (pg_name (i := 3) sc_l_alone.nd rfl (.inl rfl))) (fun _ _ _ _ _ => pts_nil) (fun _ _ _ _ _ => (pe_cmpR op_eq (pv 3) (pv 1) (nomark _)))) (nomark _)) (pe_one (pe_callB (call_isP List.mem_cons_self hz.zc (hot_flds hot)) (by rfl) T.n_isinstance (by decide +kernel) (pa_cons (pv 0) (pa_cons (pe_bltn (v := .ty "ValueError") (by rfl) T.n_ValueError (by decide +kernel) rfl) pa_nil))))))))
theorem heldAsk (T : Tx K mg) : ∀ f sp, RAsk K T.C (fnsT T) f sp → HeldR P w K mg base (L2N.CX P w) 9 f sp := by
  intro f sp h
  rcases h with ⟨rfl, rfl⟩ | ⟨rfl, rfl⟩ | ⟨rfl, rfl⟩ | ⟨rfl, rfl⟩
  · exact ⟨T.fd_l_with_grid, _, (ok_l_with_grid T).mono (by decide), T.F_l_with_grid.kp, T.b_l_with_grid⟩
  · exact ⟨T.fd_l_with_great, _, (ok_l_with_great T).mono (by decide), T.F_l_with_great.kp, T.b_l_with_great⟩
  · exact ⟨T.fd_l_with_cells, _, (ok_l_with_cells T).mono (by decide), T.F_l_with_cells.kp, T.b_l_with_cells⟩
  · exact ⟨T.fd_l_with_clues, _, (ok_l_with_clues T).mono (by decide), T.F_l_with_clues.kp, T.b_l_with_clues⟩
set_option maxHeartbeats 4000000 in
theorem ok_l_refused (T : Tx K mg) : FnOk P w K mg base CX0 10 T.f_l_refused T.fd_l_refused ["_law_ask", "_law_door", "_law_thing", "_law_due"] (sp_l_refused K T.C (fnsT T)) := by
  refine T.F_l_refused.ok sc_l_refused (fun vs H Q E h => by obtain ⟨_, _, _, rfl, _⟩ := h; rfl) (fun cdv A outer s H vs Q E hr h => ⟨t_l_refused K T.C (fnsT T), ?_, pure_l_refused rfl rfl T.em_BadGrid T.em_BadCells T.em_BadClues h⟩)
  exact (pss_cons (ps_tryN (i := 4) rfl rfl sc_l_refused.nd rfl rfl rfl (by decide) T.g_RingError (fun W pn xe tk _ => (pss_one (ps_expr (pe_callR (i := 0) (heldAsk T) (hr.mono (by decide)) rfl (by first | exact Or.inl rfl | exact Or.inr (Or.inl rfl) | exact Or.inr (Or.inr rfl)) (fun σ => L2N.passAt tk σ) (pa_cons (pv 1) (pa_cons (pv 2) pa_nil)))))) (fun ea oe ec ed pn hz hf => (pss_one (ps_ret (pe_callHP (ok_l_alone T) (room_suite (hr.mono (by decide))) (hot_of hz hf) hz List.mem_cons_self rfl T.g_l_alone T.F_l_alone.kp T.b_l_alone (pa_cons (pv 4) (pa_cons (pv 3) pa_nil)))))))
      (pss_one (ps_ret pe_bl)))
theorem heldThings (T : Tx K mg) : ∀ f sp, RThings K (fnsT T) f sp → HeldR P w K mg base CX0 1 f sp := by
  intro f sp h
  rcases h with ⟨rfl, rfl⟩ | ⟨rfl, rfl⟩ | ⟨rfl, rfl⟩ | ⟨rfl, rfl⟩
  · exact ⟨T.fd_l_no_grids, _, (ok_l_no_grids T).mono (by decide), T.F_l_no_grids.kp, T.b_l_no_grids⟩
  · exact ⟨T.fd_l_great, _, (ok_l_great T).mono (by decide), T.F_l_great.kp, T.b_l_great⟩
  · exact ⟨T.fd_l_no_cells, _, (ok_l_no_cells T).mono (by decide), T.F_l_no_cells.kp, T.b_l_no_cells⟩
  · exact ⟨T.fd_l_no_clues, _, (ok_l_no_clues T).mono (by decide), T.F_l_no_clues.kp, T.b_l_no_clues⟩
set_option maxHeartbeats 4000000 in
theorem ok_law (T : Tx K mg) : FnOk P w K mg base CX0 11 T.f_law T.fd_law ["_law_script"] (sp_law K) := by
  refine T.F_law.ok sc_law (fun vs H Q E h => by obtain ⟨_, _, rfl, _⟩ := h; rfl) (fun cdv A outer s H vs Q E hr h => ⟨t_law K T.C (fnsT T), ?_, pure_law rfl rfl h⟩)
  exact (pss_cons (ps_set (i := 1) sc_law.nd rfl (.inl rfl) (pe_lst (pa_cons (pe_tup (pa_cons (pe_glob rfl T.g_l_with_grid rfl) (pa_cons pe_int (pa_cons (pe_glob rfl T.g_l_no_grids rfl) (pa_cons pe_int pa_nil))))) (pa_cons (pe_tup (pa_cons (pe_glob rfl T.g_l_with_great rfl) (pa_cons pe_int (pa_cons (pe_glob rfl T.g_l_great rfl) (pa_cons pe_int pa_nil))))) pa_nil))))
      (pss_cons (ps_set (i := 1) sc_law.nd rfl (.inl rfl) (pe_op op_cat (pv 1) (pe_lst (pa_cons (pe_tup (pa_cons (pe_glob rfl T.g_l_with_cells rfl) (pa_cons pe_int (pa_cons (pe_glob rfl T.g_l_no_cells rfl) (pa_cons pe_int pa_nil))))) (pa_cons (pe_tup (pa_cons (pe_glob rfl T.g_l_with_clues rfl) (pa_cons pe_int (pa_cons (pe_glob rfl T.g_l_no_clues rfl) (pa_cons pe_int pa_nil))))) pa_nil)))))
      (pss_cons (ps_for PassesOwn.never rfl (pi_list (pv 1)) (pg_tup rfl (pgs_cons (pg_name (i := 2) sc_law.nd rfl (.inr rfl)) (pgs_cons (pg_name (i := 3) sc_law.nd rfl (.inl rfl)) (pgs_cons (pg_name (i := 4) sc_law.nd rfl (.inl rfl)) (pgs_cons (pg_name (i := 5) sc_law.nd rfl (.inr rfl)) pgs_nil))))) (pss_cons (ps_for PassesOwn.never rfl (pi_range1 rfl T.n_range (pa_cons (pv 3) pa_nil)) (pg_name (i := 6) sc_law.nd rfl (.inr rfl)) (pss_one (ps_if (pt_not (pt_val (pe_callB (cr_all rfl) (by rfl) T.n_all (by decide +kernel) (pa_cons (pe_lc (own := [("_law_thing", 9)]) (g := (gName 9)) (tt := tYes) (te := (tCall (sp_l_refused K T.C (fnsT T)) [] E0 (tCons (tVar 2) (tCons (tVar 6) (tCons (tVar 9) (tCons (tVar 5) tNil)))))) rfl sc_law.nd (pi_list (pe_callR (i := 4) (heldThings T) (hr.mono (by decide)) rfl (by first | exact Or.inl rfl | exact Or.inr (Or.inl rfl) | exact Or.inr (Or.inr rfl)) (fun σ => pass0At) (pa_cons (pe_callB call_len_seq (by rfl) T.n_len (by decide +kernel) (pa_cons (pv 0) pa_nil)) pa_nil))) (blkOk_by (own := [("_law_thing", 9)]) (by kernel_rfl)) (fun _ _ _ _ _ => (pg_name (i := 9) sc_law.nd rfl (.inl rfl))) (fun _ _ _ _ _ => pts_nil) (fun _ _ _ _ _ => (pe_call (ok_l_refused T) (hr.mono (by decide)) rfl T.g_l_refused T.F_l_refused.kp T.b_l_refused .nil pass0 (pa_cons (pv 2) (pa_cons (pv 6) (pa_cons (pv 9) (pa_cons (pv 5) pa_nil))))))) pa_nil)))) (pss_one (ps_ret pe_bl)) pss_nil)))
      (pss_one (ps_for PassesOwn.never rfl (pi_list (pv 0)) (pg_name (i := 7) sc_law.nd rfl (.inl rfl)) (pss_cons (ps_set (i := 8) sc_law.nd rfl (.inl rfl) (pe_callR (i := 4) (heldThings T) (hr.mono (by decide)) rfl (by first | exact Or.inl rfl | exact Or.inr (Or.inl rfl) | exact Or.inr (Or.inr rfl)) (fun σ => pass0At) (pa_cons (pe_op op_mod (pv 7) (pe_op op_pow pe_int pe_int)) pa_nil)))
      (pss_one (ps_if (pt_not (pt_val (pe_call (ok_l_refused T) (hr.mono (by decide)) rfl T.g_l_refused T.F_l_refused.kp T.b_l_refused .nil pass0 (pa_cons (pv 2) (pa_cons (pe_op op_mod (pv 7) (pv 3)) (pa_cons (pe_ix ix_list (pv 8) (pe_op op_mod (pe_op op_fdiv (pv 7) pe_int) (pe_callB call_len_seq (by rfl) T.n_len (by decide +kernel) (pa_cons (pv 8) pa_nil))) (fun _ _ => rfl)) (pa_cons (pv 5) pa_nil))))))) (pss_one (ps_ret pe_bl)) pss_nil)))))))
      (pss_one (ps_ret (pe_and (pe_cmpR op_eq (pe_callB call_len_seq (by rfl) T.n_len (by decide +kernel) (pa_cons (pe_call (ok_rings T) (hr.mono (by decide)) rfl T.g_rings T.F_rings.kp T.b_rings .nil passN (pa_cons (pe_tup (pa_cons pe_int (pa_cons pe_int pa_nil))) pa_nil)) pa_nil)) pe_int (nomark _)) (pe_one (pe_cmpR op_eq (pe_ix ix_list (pe_ix ix_list (pe_call (ok_numbers T) (hr.mono (by decide)) rfl T.g_numbers T.F_numbers.kp T.b_numbers .nil passN (pa_cons (pe_tup (pa_cons pe_int (pa_cons pe_int pa_nil))) (pa_cons (pe_lst (pa_cons pe_int pa_nil)) pa_nil))) pe_int (fun _ _ => rfl)) pe_int (fun _ _ => rfl)) pe_int (nomark _)))))))))
end
theorem all_mk {l : PySem.W.OpenLaw} {w : World} {K : PySem.W.Frag} {h : Heap} {mg : Str → Option Value} {fa : Addr} {a_cSplit a_cHole a_cOne a_cTwo a_cBadGrid a_cBadCells a_cRing a_cNoRing a_cBadClues a_cNever a_cRingError : Addr} (X : K.In h) (G : h.Ns mainGlobals mg) (hfa : mg "law" = some (.ref fa))
    {oc_is_whole kV_is_whole dc_is_whole pm_is_whole cd_is_whole ct_is_whole : Value} {od_is_whole an_is_whole : Option Addr} {sl_is_whole : Array (Option Value)} {f_is_whole : Addr}
    {oc_check_grid kV_check_grid dc_check_grid pm_check_grid cd_check_grid ct_check_grid : Value} {od_check_grid an_check_grid : Option Addr} {sl_check_grid : Array (Option Value)} {f_check_grid : Addr}
    {oc_check_few kV_check_few dc_check_few pm_check_few cd_check_few ct_check_few : Value} {od_check_few an_check_few : Option Addr} {sl_check_few : Array (Option Value)} {f_check_few : Addr}
    {oc_beside kV_beside dc_beside pm_beside cd_beside ct_beside : Value} {od_beside an_beside : Option Addr} {sl_beside : Array (Option Value)} {f_beside : Addr}
    {oc_spread kV_spread dc_spread pm_spread cd_spread ct_spread : Value} {od_spread an_spread : Option Addr} {sl_spread : Array (Option Value)} {f_spread : Addr}
    {oc_is_inner kV_is_inner dc_is_inner pm_is_inner cd_is_inner ct_is_inner : Value} {od_is_inner an_is_inner : Option Addr} {sl_is_inner : Array (Option Value)} {f_is_inner : Addr}
    {oc_first_inner kV_first_inner dc_first_inner pm_first_inner cd_first_inner ct_first_inner : Value} {od_first_inner an_first_inner : Option Addr} {sl_first_inner : Array (Option Value)} {f_first_inner : Addr}
    {oc_is_ring kV_is_ring dc_is_ring pm_is_ring cd_is_ring ct_is_ring : Value} {od_is_ring an_is_ring : Option Addr} {sl_is_ring : Array (Option Value)} {f_is_ring : Addr}
    {oc_all_rings kV_all_rings dc_all_rings pm_all_rings cd_all_rings ct_all_rings : Value} {od_all_rings an_all_rings : Option Addr} {sl_all_rings : Array (Option Value)} {f_all_rings : Addr}
    {oc_rings kV_rings dc_rings pm_rings cd_rings ct_rings : Value} {od_rings an_rings : Option Addr} {sl_rings : Array (Option Value)} {f_rings : Addr}
    {oc_check_cells kV_check_cells dc_check_cells pm_check_cells cd_check_cells ct_check_cells : Value} {od_check_cells an_check_cells : Option Addr} {sl_check_cells : Array (Option Value)} {f_check_cells : Addr}
    {oc_sides_of kV_sides_of dc_sides_of pm_sides_of cd_sides_of ct_sides_of : Value} {od_sides_of an_sides_of : Option Addr} {sl_sides_of : Array (Option Value)} {f_sides_of : Addr}
    {oc_numbers_of kV_numbers_of dc_numbers_of pm_numbers_of cd_numbers_of ct_numbers_of : Value} {od_numbers_of an_numbers_of : Option Addr} {sl_numbers_of : Array (Option Value)} {f_numbers_of : Addr}
    {oc_numbers kV_numbers dc_numbers pm_numbers cd_numbers ct_numbers : Value} {od_numbers an_numbers : Option Addr} {sl_numbers : Array (Option Value)} {f_numbers : Addr}
    {oc_Split_init kV_Split_init dc_Split_init pm_Split_init cd_Split_init ct_Split_init : Value} {od_Split_init an_Split_init : Option Addr} {sl_Split_init : Array (Option Value)} {f_Split_init : Addr}
    {oc_Hole_init kV_Hole_init dc_Hole_init pm_Hole_init cd_Hole_init ct_Hole_init : Value} {od_Hole_init an_Hole_init : Option Addr} {sl_Hole_init : Array (Option Value)} {f_Hole_init : Addr}
    {oc_judged kV_judged dc_judged pm_judged cd_judged ct_judged : Value} {od_judged an_judged : Option Addr} {sl_judged : Array (Option Value)} {f_judged : Addr}
    {oc_side_ahead kV_side_ahead dc_side_ahead pm_side_ahead cd_side_ahead ct_side_ahead : Value} {od_side_ahead an_side_ahead : Option Addr} {sl_side_ahead : Array (Option Value)} {f_side_ahead : Addr}
    {oc_walk kV_walk dc_walk pm_walk cd_walk ct_walk : Value} {od_walk an_walk : Option Addr} {sl_walk : Array (Option Value)} {f_walk : Addr}
    {oc_l_with_grid kV_l_with_grid dc_l_with_grid pm_l_with_grid cd_l_with_grid ct_l_with_grid : Value} {od_l_with_grid an_l_with_grid : Option Addr} {sl_l_with_grid : Array (Option Value)} {f_l_with_grid : Addr}
    {oc_l_no_grids kV_l_no_grids dc_l_no_grids pm_l_no_grids cd_l_no_grids ct_l_no_grids : Value} {od_l_no_grids an_l_no_grids : Option Addr} {sl_l_no_grids : Array (Option Value)} {f_l_no_grids : Addr}
    {oc_l_with_great kV_l_with_great dc_l_with_great pm_l_with_great cd_l_with_great ct_l_with_great : Value} {od_l_with_great an_l_with_great : Option Addr} {sl_l_with_great : Array (Option Value)} {f_l_with_great : Addr}
    {oc_l_great kV_l_great dc_l_great pm_l_great cd_l_great ct_l_great : Value} {od_l_great an_l_great : Option Addr} {sl_l_great : Array (Option Value)} {f_l_great : Addr}
    {oc_l_with_cells kV_l_with_cells dc_l_with_cells pm_l_with_cells cd_l_with_cells ct_l_with_cells : Value} {od_l_with_cells an_l_with_cells : Option Addr} {sl_l_with_cells : Array (Option Value)} {f_l_with_cells : Addr}
    {oc_l_no_cells kV_l_no_cells dc_l_no_cells pm_l_no_cells cd_l_no_cells ct_l_no_cells : Value} {od_l_no_cells an_l_no_cells : Option Addr} {sl_l_no_cells : Array (Option Value)} {f_l_no_cells : Addr}
    {oc_check_clues kV_check_clues dc_check_clues pm_check_clues cd_check_clues ct_check_clues : Value} {od_check_clues an_check_clues : Option Addr} {sl_check_clues : Array (Option Value)} {f_check_clues : Addr}
    {oc_fits kV_fits dc_fits pm_fits cd_fits ct_fits : Value} {od_fits an_fits : Option Addr} {sl_fits : Array (Option Value)} {f_fits : Addr}
    {oc_fitting_of kV_fitting_of dc_fitting_of pm_fitting_of cd_fitting_of ct_fitting_of : Value} {od_fitting_of an_fitting_of : Option Addr} {sl_fitting_of : Array (Option Value)} {f_fitting_of : Addr}
    {oc_fitting kV_fitting dc_fitting pm_fitting cd_fitting ct_fitting : Value} {od_fitting an_fitting : Option Addr} {sl_fitting : Array (Option Value)} {f_fitting : Addr}
    {oc_One_init kV_One_init dc_One_init pm_One_init cd_One_init ct_One_init : Value} {od_One_init an_One_init : Option Addr} {sl_One_init : Array (Option Value)} {f_One_init : Addr}
    {oc_Two_init kV_Two_init dc_Two_init pm_Two_init cd_Two_init ct_Two_init : Value} {od_Two_init an_Two_init : Option Addr} {sl_Two_init : Array (Option Value)} {f_Two_init : Addr}
    {oc_told kV_told dc_told pm_told cd_told ct_told : Value} {od_told an_told : Option Addr} {sl_told : Array (Option Value)} {f_told : Addr}
    {oc_l_with_clues kV_l_with_clues dc_l_with_clues pm_l_with_clues cd_l_with_clues ct_l_with_clues : Value} {od_l_with_clues an_l_with_clues : Option Addr} {sl_l_with_clues : Array (Option Value)} {f_l_with_clues : Addr}
    {oc_l_no_clues kV_l_no_clues dc_l_no_clues pm_l_no_clues cd_l_no_clues ct_l_no_clues : Value} {od_l_no_clues an_l_no_clues : Option Addr} {sl_l_no_clues : Array (Option Value)} {f_l_no_clues : Addr}
    {oc_l_alone kV_l_alone dc_l_alone pm_l_alone cd_l_alone ct_l_alone : Value} {od_l_alone an_l_alone : Option Addr} {sl_l_alone : Array (Option Value)} {f_l_alone : Addr}
    {oc_l_refused kV_l_refused dc_l_refused pm_l_refused cd_l_refused ct_l_refused : Value} {od_l_refused an_l_refused : Option Addr} {sl_l_refused : Array (Option Value)} {f_l_refused : Addr}
    {oc_law kV_law dc_law pm_law cd_law ct_law : Value} {od_law an_law : Option Addr} {sl_law : Array (Option Value)} {f_law : Addr}
    {k_MOST : Tok}
    {k_FEW : Tok}
    (ha_is_whole : PySem.W.nsIn K mainGlobals "is_whole" = some (some (.ref f_is_whole)))
    (hl_is_whole : K.lookup f_is_whole = some ⟨oc_is_whole, od_is_whole, .func (PySem.W.fnOf "is_whole" "is_whole" (defArgs s_is_whole) (defBody s_is_whole) (defScope s_is_whole) .none kV_is_whole dc_is_whole pm_is_whole an_is_whole cd_is_whole ct_is_whole), sl_is_whole⟩)
    (hc_is_whole : PySem.W.codeIn K cd_is_whole "is_whole" = true)
    (hk_is_whole : PySem.W.keepIn K (.ref f_is_whole) = true)
    (ha_check_grid : PySem.W.nsIn K mainGlobals "check_grid" = some (some (.ref f_check_grid)))
    (hl_check_grid : K.lookup f_check_grid = some ⟨oc_check_grid, od_check_grid, .func (PySem.W.fnOf "check_grid" "check_grid" (defArgs s_check_grid) (defBody s_check_grid) (defScope s_check_grid) .none kV_check_grid dc_check_grid pm_check_grid an_check_grid cd_check_grid ct_check_grid), sl_check_grid⟩)
    (hc_check_grid : PySem.W.codeIn K cd_check_grid "check_grid" = true)
    (hk_check_grid : PySem.W.keepIn K (.ref f_check_grid) = true)
    (ha_check_few : PySem.W.nsIn K mainGlobals "check_few" = some (some (.ref f_check_few)))
    (hl_check_few : K.lookup f_check_few = some ⟨oc_check_few, od_check_few, .func (PySem.W.fnOf "check_few" "check_few" (defArgs s_check_few) (defBody s_check_few) (defScope s_check_few) .none kV_check_few dc_check_few pm_check_few an_check_few cd_check_few ct_check_few), sl_check_few⟩)
    (hc_check_few : PySem.W.codeIn K cd_check_few "check_few" = true)
    (hk_check_few : PySem.W.keepIn K (.ref f_check_few) = true)
    (ha_beside : PySem.W.nsIn K mainGlobals "beside" = some (some (.ref f_beside)))
    (hl_beside : K.lookup f_beside = some ⟨oc_beside, od_beside, .func (PySem.W.fnOf "beside" "beside" (defArgs s_beside) (defBody s_beside) (defScope s_beside) .none kV_beside dc_beside pm_beside an_beside cd_beside ct_beside), sl_beside⟩)
    (hc_beside : PySem.W.codeIn K cd_beside "beside" = true)
    (hk_beside : PySem.W.keepIn K (.ref f_beside) = true)
    (ha_spread : PySem.W.nsIn K mainGlobals "spread" = some (some (.ref f_spread)))
    (hl_spread : K.lookup f_spread = some ⟨oc_spread, od_spread, .func (PySem.W.fnOf "spread" "spread" (defArgs s_spread) (defBody s_spread) (defScope s_spread) .none kV_spread dc_spread pm_spread an_spread cd_spread ct_spread), sl_spread⟩)
    (hc_spread : PySem.W.codeIn K cd_spread "spread" = true)
    (hk_spread : PySem.W.keepIn K (.ref f_spread) = true)
    (ha_is_inner : PySem.W.nsIn K mainGlobals "is_inner" = some (some (.ref f_is_inner)))
    (hl_is_inner : K.lookup f_is_inner = some ⟨oc_is_inner, od_is_inner, .func (PySem.W.fnOf "is_inner" "is_inner" (defArgs s_is_inner) (defBody s_is_inner) (defScope s_is_inner) .none kV_is_inner dc_is_inner pm_is_inner an_is_inner cd_is_inner ct_is_inner), sl_is_inner⟩)
    (hc_is_inner : PySem.W.codeIn K cd_is_inner "is_inner" = true)
    (hk_is_inner : PySem.W.keepIn K (.ref f_is_inner) = true)
    (ha_first_inner : PySem.W.nsIn K mainGlobals "first_inner" = some (some (.ref f_first_inner)))
    (hl_first_inner : K.lookup f_first_inner = some ⟨oc_first_inner, od_first_inner, .func (PySem.W.fnOf "first_inner" "first_inner" (defArgs s_first_inner) (defBody s_first_inner) (defScope s_first_inner) .none kV_first_inner dc_first_inner pm_first_inner an_first_inner cd_first_inner ct_first_inner), sl_first_inner⟩)
    (hc_first_inner : PySem.W.codeIn K cd_first_inner "first_inner" = true)
    (hk_first_inner : PySem.W.keepIn K (.ref f_first_inner) = true)
    (ha_is_ring : PySem.W.nsIn K mainGlobals "is_ring" = some (some (.ref f_is_ring)))
    (hl_is_ring : K.lookup f_is_ring = some ⟨oc_is_ring, od_is_ring, .func (PySem.W.fnOf "is_ring" "is_ring" (defArgs s_is_ring) (defBody s_is_ring) (defScope s_is_ring) .none kV_is_ring dc_is_ring pm_is_ring an_is_ring cd_is_ring ct_is_ring), sl_is_ring⟩)
    (hc_is_ring : PySem.W.codeIn K cd_is_ring "is_ring" = true)
    (hk_is_ring : PySem.W.keepIn K (.ref f_is_ring) = true)
    (ha_all_rings : PySem.W.nsIn K mainGlobals "all_rings" = some (some (.ref f_all_rings)))
    (hl_all_rings : K.lookup f_all_rings = some ⟨oc_all_rings, od_all_rings, .func (PySem.W.fnOf "all_rings" "all_rings" (defArgs s_all_rings) (defBody s_all_rings) (defScope s_all_rings) .none kV_all_rings dc_all_rings pm_all_rings an_all_rings cd_all_rings ct_all_rings), sl_all_rings⟩)
    (hc_all_rings : PySem.W.codeIn K cd_all_rings "all_rings" = true)
    (hk_all_rings : PySem.W.keepIn K (.ref f_all_rings) = true)
    (ha_rings : PySem.W.nsIn K mainGlobals "rings" = some (some (.ref f_rings)))
    (hl_rings : K.lookup f_rings = some ⟨oc_rings, od_rings, .func (PySem.W.fnOf "rings" "rings" (defArgs s_rings) (defBody s_rings) (defScope s_rings) .none kV_rings dc_rings pm_rings an_rings cd_rings ct_rings), sl_rings⟩)
    (hc_rings : PySem.W.codeIn K cd_rings "rings" = true)
    (hk_rings : PySem.W.keepIn K (.ref f_rings) = true)
    (ha_check_cells : PySem.W.nsIn K mainGlobals "check_cells" = some (some (.ref f_check_cells)))
    (hl_check_cells : K.lookup f_check_cells = some ⟨oc_check_cells, od_check_cells, .func (PySem.W.fnOf "check_cells" "check_cells" (defArgs s_check_cells) (defBody s_check_cells) (defScope s_check_cells) .none kV_check_cells dc_check_cells pm_check_cells an_check_cells cd_check_cells ct_check_cells), sl_check_cells⟩)
    (hc_check_cells : PySem.W.codeIn K cd_check_cells "check_cells" = true)
    (hk_check_cells : PySem.W.keepIn K (.ref f_check_cells) = true)
    (ha_sides_of : PySem.W.nsIn K mainGlobals "sides_of" = some (some (.ref f_sides_of)))
    (hl_sides_of : K.lookup f_sides_of = some ⟨oc_sides_of, od_sides_of, .func (PySem.W.fnOf "sides_of" "sides_of" (defArgs s_sides_of) (defBody s_sides_of) (defScope s_sides_of) .none kV_sides_of dc_sides_of pm_sides_of an_sides_of cd_sides_of ct_sides_of), sl_sides_of⟩)
    (hc_sides_of : PySem.W.codeIn K cd_sides_of "sides_of" = true)
    (hk_sides_of : PySem.W.keepIn K (.ref f_sides_of) = true)
    (ha_numbers_of : PySem.W.nsIn K mainGlobals "numbers_of" = some (some (.ref f_numbers_of)))
    (hl_numbers_of : K.lookup f_numbers_of = some ⟨oc_numbers_of, od_numbers_of, .func (PySem.W.fnOf "numbers_of" "numbers_of" (defArgs s_numbers_of) (defBody s_numbers_of) (defScope s_numbers_of) .none kV_numbers_of dc_numbers_of pm_numbers_of an_numbers_of cd_numbers_of ct_numbers_of), sl_numbers_of⟩)
    (hc_numbers_of : PySem.W.codeIn K cd_numbers_of "numbers_of" = true)
    (hk_numbers_of : PySem.W.keepIn K (.ref f_numbers_of) = true)
    (ha_numbers : PySem.W.nsIn K mainGlobals "numbers" = some (some (.ref f_numbers)))
    (hl_numbers : K.lookup f_numbers = some ⟨oc_numbers, od_numbers, .func (PySem.W.fnOf "numbers" "numbers" (defArgs s_numbers) (defBody s_numbers) (defScope s_numbers) .none kV_numbers dc_numbers pm_numbers an_numbers cd_numbers ct_numbers), sl_numbers⟩)
    (hc_numbers : PySem.W.codeIn K cd_numbers "numbers" = true)
    (hk_numbers : PySem.W.keepIn K (.ref f_numbers) = true)
    (h_n_Split : PySem.W.nsIn K mainGlobals "Split" = some (some (.ref a_cSplit)))
    (ha_Split_init : PySem.W.findIn K (.ref a_cSplit) "__init__" = some (some (.ref f_Split_init)))
    (hl_Split_init : K.lookup f_Split_init = some ⟨oc_Split_init, od_Split_init, .func (PySem.W.fnOf "__init__" "Split.__init__" (defArgs s_Split_init) (defBody s_Split_init) (defScope s_Split_init) .none kV_Split_init dc_Split_init pm_Split_init an_Split_init cd_Split_init ct_Split_init), sl_Split_init⟩)
    (hc_Split_init : PySem.W.codeIn K cd_Split_init "Split.__init__" = true)
    (hk_Split_init : PySem.W.keepIn K (.ref f_Split_init) = true)
    (h_n_Hole : PySem.W.nsIn K mainGlobals "Hole" = some (some (.ref a_cHole)))
    (ha_Hole_init : PySem.W.findIn K (.ref a_cHole) "__init__" = some (some (.ref f_Hole_init)))
    (hl_Hole_init : K.lookup f_Hole_init = some ⟨oc_Hole_init, od_Hole_init, .func (PySem.W.fnOf "__init__" "Hole.__init__" (defArgs s_Hole_init) (defBody s_Hole_init) (defScope s_Hole_init) .none kV_Hole_init dc_Hole_init pm_Hole_init an_Hole_init cd_Hole_init ct_Hole_init), sl_Hole_init⟩)
    (hc_Hole_init : PySem.W.codeIn K cd_Hole_init "Hole.__init__" = true)
    (hk_Hole_init : PySem.W.keepIn K (.ref f_Hole_init) = true)
    (ha_judged : PySem.W.nsIn K mainGlobals "judged" = some (some (.ref f_judged)))
    (hl_judged : K.lookup f_judged = some ⟨oc_judged, od_judged, .func (PySem.W.fnOf "judged" "judged" (defArgs s_judged) (defBody s_judged) (defScope s_judged) .none kV_judged dc_judged pm_judged an_judged cd_judged ct_judged), sl_judged⟩)
    (hc_judged : PySem.W.codeIn K cd_judged "judged" = true)
    (hk_judged : PySem.W.keepIn K (.ref f_judged) = true)
    (ha_side_ahead : PySem.W.nsIn K mainGlobals "side_ahead" = some (some (.ref f_side_ahead)))
    (hl_side_ahead : K.lookup f_side_ahead = some ⟨oc_side_ahead, od_side_ahead, .func (PySem.W.fnOf "side_ahead" "side_ahead" (defArgs s_side_ahead) (defBody s_side_ahead) (defScope s_side_ahead) .none kV_side_ahead dc_side_ahead pm_side_ahead an_side_ahead cd_side_ahead ct_side_ahead), sl_side_ahead⟩)
    (hc_side_ahead : PySem.W.codeIn K cd_side_ahead "side_ahead" = true)
    (hk_side_ahead : PySem.W.keepIn K (.ref f_side_ahead) = true)
    (ha_walk : PySem.W.nsIn K mainGlobals "walk" = some (some (.ref f_walk)))
    (hl_walk : K.lookup f_walk = some ⟨oc_walk, od_walk, .func (PySem.W.fnOf "walk" "walk" (defArgs s_walk) (defBody s_walk) (defScope s_walk) .none kV_walk dc_walk pm_walk an_walk cd_walk ct_walk), sl_walk⟩)
    (hc_walk : PySem.W.codeIn K cd_walk "walk" = true)
    (hk_walk : PySem.W.keepIn K (.ref f_walk) = true)
    (ha_l_with_grid : PySem.W.nsIn K mainGlobals "_law_with_grid" = some (some (.ref f_l_with_grid)))
    (hl_l_with_grid : K.lookup f_l_with_grid = some ⟨oc_l_with_grid, od_l_with_grid, .func (PySem.W.fnOf "_law_with_grid" "_law_with_grid" (defArgs s_l_with_grid) (defBody s_l_with_grid) (defScope s_l_with_grid) .none kV_l_with_grid dc_l_with_grid pm_l_with_grid an_l_with_grid cd_l_with_grid ct_l_with_grid), sl_l_with_grid⟩)
    (hc_l_with_grid : PySem.W.codeIn K cd_l_with_grid "_law_with_grid" = true)
    (hk_l_with_grid : PySem.W.keepIn K (.ref f_l_with_grid) = true)
    (ha_l_no_grids : PySem.W.nsIn K mainGlobals "_law_no_grids" = some (some (.ref f_l_no_grids)))
    (hl_l_no_grids : K.lookup f_l_no_grids = some ⟨oc_l_no_grids, od_l_no_grids, .func (PySem.W.fnOf "_law_no_grids" "_law_no_grids" (defArgs s_l_no_grids) (defBody s_l_no_grids) (defScope s_l_no_grids) .none kV_l_no_grids dc_l_no_grids pm_l_no_grids an_l_no_grids cd_l_no_grids ct_l_no_grids), sl_l_no_grids⟩)
    (hc_l_no_grids : PySem.W.codeIn K cd_l_no_grids "_law_no_grids" = true)
    (hk_l_no_grids : PySem.W.keepIn K (.ref f_l_no_grids) = true)
    (ha_l_with_great : PySem.W.nsIn K mainGlobals "_law_with_great" = some (some (.ref f_l_with_great)))
    (hl_l_with_great : K.lookup f_l_with_great = some ⟨oc_l_with_great, od_l_with_great, .func (PySem.W.fnOf "_law_with_great" "_law_with_great" (defArgs s_l_with_great) (defBody s_l_with_great) (defScope s_l_with_great) .none kV_l_with_great dc_l_with_great pm_l_with_great an_l_with_great cd_l_with_great ct_l_with_great), sl_l_with_great⟩)
    (hc_l_with_great : PySem.W.codeIn K cd_l_with_great "_law_with_great" = true)
    (hk_l_with_great : PySem.W.keepIn K (.ref f_l_with_great) = true)
    (ha_l_great : PySem.W.nsIn K mainGlobals "_law_great" = some (some (.ref f_l_great)))
    (hl_l_great : K.lookup f_l_great = some ⟨oc_l_great, od_l_great, .func (PySem.W.fnOf "_law_great" "_law_great" (defArgs s_l_great) (defBody s_l_great) (defScope s_l_great) .none kV_l_great dc_l_great pm_l_great an_l_great cd_l_great ct_l_great), sl_l_great⟩)
    (hc_l_great : PySem.W.codeIn K cd_l_great "_law_great" = true)
    (hk_l_great : PySem.W.keepIn K (.ref f_l_great) = true)
    (ha_l_with_cells : PySem.W.nsIn K mainGlobals "_law_with_cells" = some (some (.ref f_l_with_cells)))
    (hl_l_with_cells : K.lookup f_l_with_cells = some ⟨oc_l_with_cells, od_l_with_cells, .func (PySem.W.fnOf "_law_with_cells" "_law_with_cells" (defArgs s_l_with_cells) (defBody s_l_with_cells) (defScope s_l_with_cells) .none kV_l_with_cells dc_l_with_cells pm_l_with_cells an_l_with_cells cd_l_with_cells ct_l_with_cells), sl_l_with_cells⟩)
    (hc_l_with_cells : PySem.W.codeIn K cd_l_with_cells "_law_with_cells" = true)
    (hk_l_with_cells : PySem.W.keepIn K (.ref f_l_with_cells) = true)
    (ha_l_no_cells : PySem.W.nsIn K mainGlobals "_law_no_cells" = some (some (.ref f_l_no_cells)))
    (hl_l_no_cells : K.lookup f_l_no_cells = some ⟨oc_l_no_cells, od_l_no_cells, .func (PySem.W.fnOf "_law_no_cells" "_law_no_cells" (defArgs s_l_no_cells) (defBody s_l_no_cells) (defScope s_l_no_cells) .none kV_l_no_cells dc_l_no_cells pm_l_no_cells an_l_no_cells cd_l_no_cells ct_l_no_cells), sl_l_no_cells⟩)
    (hc_l_no_cells : PySem.W.codeIn K cd_l_no_cells "_law_no_cells" = true)
    (hk_l_no_cells : PySem.W.keepIn K (.ref f_l_no_cells) = true)
    (ha_check_clues : PySem.W.nsIn K mainGlobals "check_clues" = some (some (.ref f_check_clues)))
    (hl_check_clues : K.lookup f_check_clues = some ⟨oc_check_clues, od_check_clues, .func (PySem.W.fnOf "check_clues" "check_clues" (defArgs s_check_clues) (defBody s_check_clues) (defScope s_check_clues) .none kV_check_clues dc_check_clues pm_check_clues an_check_clues cd_check_clues ct_check_clues), sl_check_clues⟩)
    (hc_check_clues : PySem.W.codeIn K cd_check_clues "check_clues" = true)
    (hk_check_clues : PySem.W.keepIn K (.ref f_check_clues) = true)
    (ha_fits : PySem.W.nsIn K mainGlobals "fits" = some (some (.ref f_fits)))
    (hl_fits : K.lookup f_fits = some ⟨oc_fits, od_fits, .func (PySem.W.fnOf "fits" "fits" (defArgs s_fits) (defBody s_fits) (defScope s_fits) .none kV_fits dc_fits pm_fits an_fits cd_fits ct_fits), sl_fits⟩)
    (hc_fits : PySem.W.codeIn K cd_fits "fits" = true)
    (hk_fits : PySem.W.keepIn K (.ref f_fits) = true)
    (ha_fitting_of : PySem.W.nsIn K mainGlobals "fitting_of" = some (some (.ref f_fitting_of)))
    (hl_fitting_of : K.lookup f_fitting_of = some ⟨oc_fitting_of, od_fitting_of, .func (PySem.W.fnOf "fitting_of" "fitting_of" (defArgs s_fitting_of) (defBody s_fitting_of) (defScope s_fitting_of) .none kV_fitting_of dc_fitting_of pm_fitting_of an_fitting_of cd_fitting_of ct_fitting_of), sl_fitting_of⟩)
    (hc_fitting_of : PySem.W.codeIn K cd_fitting_of "fitting_of" = true)
    (hk_fitting_of : PySem.W.keepIn K (.ref f_fitting_of) = true)
    (ha_fitting : PySem.W.nsIn K mainGlobals "fitting" = some (some (.ref f_fitting)))
    (hl_fitting : K.lookup f_fitting = some ⟨oc_fitting, od_fitting, .func (PySem.W.fnOf "fitting" "fitting" (defArgs s_fitting) (defBody s_fitting) (defScope s_fitting) .none kV_fitting dc_fitting pm_fitting an_fitting cd_fitting ct_fitting), sl_fitting⟩)
    (hc_fitting : PySem.W.codeIn K cd_fitting "fitting" = true)
    (hk_fitting : PySem.W.keepIn K (.ref f_fitting) = true)
    (h_n_One : PySem.W.nsIn K mainGlobals "One" = some (some (.ref a_cOne)))
    (ha_One_init : PySem.W.findIn K (.ref a_cOne) "__init__" = some (some (.ref f_One_init)))
    (hl_One_init : K.lookup f_One_init = some ⟨oc_One_init, od_One_init, .func (PySem.W.fnOf "__init__" "One.__init__" (defArgs s_One_init) (defBody s_One_init) (defScope s_One_init) .none kV_One_init dc_One_init pm_One_init an_One_init cd_One_init ct_One_init), sl_One_init⟩)
    (hc_One_init : PySem.W.codeIn K cd_One_init "One.__init__" = true)
    (hk_One_init : PySem.W.keepIn K (.ref f_One_init) = true)
    (h_n_Two : PySem.W.nsIn K mainGlobals "Two" = some (some (.ref a_cTwo)))
    (ha_Two_init : PySem.W.findIn K (.ref a_cTwo) "__init__" = some (some (.ref f_Two_init)))
    (hl_Two_init : K.lookup f_Two_init = some ⟨oc_Two_init, od_Two_init, .func (PySem.W.fnOf "__init__" "Two.__init__" (defArgs s_Two_init) (defBody s_Two_init) (defScope s_Two_init) .none kV_Two_init dc_Two_init pm_Two_init an_Two_init cd_Two_init ct_Two_init), sl_Two_init⟩)
    (hc_Two_init : PySem.W.codeIn K cd_Two_init "Two.__init__" = true)
    (hk_Two_init : PySem.W.keepIn K (.ref f_Two_init) = true)
    (ha_told : PySem.W.nsIn K mainGlobals "told" = some (some (.ref f_told)))
    (hl_told : K.lookup f_told = some ⟨oc_told, od_told, .func (PySem.W.fnOf "told" "told" (defArgs s_told) (defBody s_told) (defScope s_told) .none kV_told dc_told pm_told an_told cd_told ct_told), sl_told⟩)
    (hc_told : PySem.W.codeIn K cd_told "told" = true)
    (hk_told : PySem.W.keepIn K (.ref f_told) = true)
    (ha_l_with_clues : PySem.W.nsIn K mainGlobals "_law_with_clues" = some (some (.ref f_l_with_clues)))
    (hl_l_with_clues : K.lookup f_l_with_clues = some ⟨oc_l_with_clues, od_l_with_clues, .func (PySem.W.fnOf "_law_with_clues" "_law_with_clues" (defArgs s_l_with_clues) (defBody s_l_with_clues) (defScope s_l_with_clues) .none kV_l_with_clues dc_l_with_clues pm_l_with_clues an_l_with_clues cd_l_with_clues ct_l_with_clues), sl_l_with_clues⟩)
    (hc_l_with_clues : PySem.W.codeIn K cd_l_with_clues "_law_with_clues" = true)
    (hk_l_with_clues : PySem.W.keepIn K (.ref f_l_with_clues) = true)
    (ha_l_no_clues : PySem.W.nsIn K mainGlobals "_law_no_clues" = some (some (.ref f_l_no_clues)))
    (hl_l_no_clues : K.lookup f_l_no_clues = some ⟨oc_l_no_clues, od_l_no_clues, .func (PySem.W.fnOf "_law_no_clues" "_law_no_clues" (defArgs s_l_no_clues) (defBody s_l_no_clues) (defScope s_l_no_clues) .none kV_l_no_clues dc_l_no_clues pm_l_no_clues an_l_no_clues cd_l_no_clues ct_l_no_clues), sl_l_no_clues⟩)
    (hc_l_no_clues : PySem.W.codeIn K cd_l_no_clues "_law_no_clues" = true)
    (hk_l_no_clues : PySem.W.keepIn K (.ref f_l_no_clues) = true)
    (ha_l_alone : PySem.W.nsIn K mainGlobals "_law_alone" = some (some (.ref f_l_alone)))
    (hl_l_alone : K.lookup f_l_alone = some ⟨oc_l_alone, od_l_alone, .func (PySem.W.fnOf "_law_alone" "_law_alone" (defArgs s_l_alone) (defBody s_l_alone) (defScope s_l_alone) .none kV_l_alone dc_l_alone pm_l_alone an_l_alone cd_l_alone ct_l_alone), sl_l_alone⟩)
    (hc_l_alone : PySem.W.codeIn K cd_l_alone "_law_alone" = true)
    (hk_l_alone : PySem.W.keepIn K (.ref f_l_alone) = true)
    (ha_l_refused : PySem.W.nsIn K mainGlobals "_law_refused" = some (some (.ref f_l_refused)))
    (hl_l_refused : K.lookup f_l_refused = some ⟨oc_l_refused, od_l_refused, .func (PySem.W.fnOf "_law_refused" "_law_refused" (defArgs s_l_refused) (defBody s_l_refused) (defScope s_l_refused) .none kV_l_refused dc_l_refused pm_l_refused an_l_refused cd_l_refused ct_l_refused), sl_l_refused⟩)
    (hc_l_refused : PySem.W.codeIn K cd_l_refused "_law_refused" = true)
    (hk_l_refused : PySem.W.keepIn K (.ref f_l_refused) = true)
    (ha_law : PySem.W.nsIn K mainGlobals "law" = some (some (.ref f_law)))
    (hl_law : K.lookup f_law = some ⟨oc_law, od_law, .func (PySem.W.fnOf "law" "law" (defArgs s_law) (defBody s_law) (defScope s_law) .none kV_law dc_law pm_law an_law cd_law ct_law), sl_law⟩)
    (hc_law : PySem.W.codeIn K cd_law "law" = true)
    (hk_law : PySem.W.keepIn K (.ref f_law) = true)
    (hz_isinstance : PySem.W.nsIn K mainGlobals "isinstance" = some none)
    (hz_int : PySem.W.nsIn K mainGlobals "int" = some none)
    (hz_bool : PySem.W.nsIn K mainGlobals "bool" = some none)
    (hz_tuple : PySem.W.nsIn K mainGlobals "tuple" = some none)
    (hz_len : PySem.W.nsIn K mainGlobals "len" = some none)
    (hz_all : PySem.W.nsIn K mainGlobals "all" = some none)
    (hg_MOST : PySem.W.nsIn K mainGlobals "MOST" = some (some (.int 6 k_MOST)))
    (h_n_BadGrid : PySem.W.nsIn K mainGlobals "BadGrid" = some (some (.ref a_cBadGrid)))
    (h_x_BadGrid : PySem.W.excIn K a_cBadGrid [.type "ValueError", .type "Exception", .type "BaseException", .type "object"] "ValueError.__new__" = true)
    (h_k_BadGrid : PySem.W.keepIn K (.ref a_cBadGrid) = true)
    (h_e_BadGrid : PySem.W.subIn K (.ref a_cBadGrid) (.type "BaseException") = some true)
    (h_y_BadGrid : PySem.W.typeIn K (.ref a_cBadGrid) = some (.type "type"))
    (hg_FEW : PySem.W.nsIn K mainGlobals "FEW" = some (some (.int 9 k_FEW)))
    (hz_range : PySem.W.nsIn K mainGlobals "range" = some none)
    (hz_sorted : PySem.W.nsIn K mainGlobals "sorted" = some none)
    (hz_list : PySem.W.nsIn K mainGlobals "list" = some none)
    (h_n_BadCells : PySem.W.nsIn K mainGlobals "BadCells" = some (some (.ref a_cBadCells)))
    (h_x_BadCells : PySem.W.excIn K a_cBadCells [.type "ValueError", .type "Exception", .type "BaseException", .type "object"] "ValueError.__new__" = true)
    (h_k_BadCells : PySem.W.keepIn K (.ref a_cBadCells) = true)
    (h_e_BadCells : PySem.W.subIn K (.ref a_cBadCells) (.type "BaseException") = some true)
    (h_y_BadCells : PySem.W.typeIn K (.ref a_cBadCells) = some (.type "type"))
    (hz_any : PySem.W.nsIn K mainGlobals "any" = some none)
    (hz_zip : PySem.W.nsIn K mainGlobals "zip" = some none)
    (pg_Split : PySem.W.plainGet K a_cSplit Str.empty = true)
    (hd_Split : PySem.W.hasDictIn K a_cSplit = true)
    (po_Split : PySem.W.plainOver K a_cSplit = true)
    (sa_Split : PySem.W.findIn K (.ref a_cSplit) "__setattr__" = some (some (.builtin "object.__setattr__")))
    (na_Split_one : PySem.W.findIn K (.ref a_cSplit) "one" = some none)
    (na_Split_other : PySem.W.findIn K (.ref a_cSplit) "other" = some none)
    (pg_Hole : PySem.W.plainGet K a_cHole Str.empty = true)
    (hd_Hole : PySem.W.hasDictIn K a_cHole = true)
    (po_Hole : PySem.W.plainOver K a_cHole = true)
    (sa_Hole : PySem.W.findIn K (.ref a_cHole) "__setattr__" = some (some (.builtin "object.__setattr__")))
    (na_Hole_cell : PySem.W.findIn K (.ref a_cHole) "cell" = some none)
    (mk_Split : PySem.W.makesIn K a_cSplit = true)
    (kc_Split : PySem.W.keepIn K (.ref a_cSplit) = true)
    (if_Split_init : PySem.W.isFn K (.ref f_Split_init) = true)
    (h_n_Ring : PySem.W.nsIn K mainGlobals "Ring" = some (some (.ref a_cRing)))
    (mk_Ring : PySem.W.makesIn K a_cRing = true)
    (kc_Ring : PySem.W.keepIn K (.ref a_cRing) = true)
    (oi_Ring : PySem.W.findIn K (.ref a_cRing) "__init__" = some (some (.builtin "object.__init__")))
    (mk_Hole : PySem.W.makesIn K a_cHole = true)
    (kc_Hole : PySem.W.keepIn K (.ref a_cHole) = true)
    (if_Hole_init : PySem.W.isFn K (.ref f_Hole_init) = true)
    (h_n_NoRing : PySem.W.nsIn K mainGlobals "NoRing" = some (some (.ref a_cNoRing)))
    (h_x_NoRing : PySem.W.excIn K a_cNoRing [.type "ValueError", .type "Exception", .type "BaseException", .type "object"] "ValueError.__new__" = true)
    (h_k_NoRing : PySem.W.keepIn K (.ref a_cNoRing) = true)
    (h_e_NoRing : PySem.W.subIn K (.ref a_cNoRing) (.type "BaseException") = some true)
    (h_y_NoRing : PySem.W.typeIn K (.ref a_cNoRing) = some (.type "type"))
    (h_n_BadClues : PySem.W.nsIn K mainGlobals "BadClues" = some (some (.ref a_cBadClues)))
    (h_x_BadClues : PySem.W.excIn K a_cBadClues [.type "ValueError", .type "Exception", .type "BaseException", .type "object"] "ValueError.__new__" = true)
    (h_k_BadClues : PySem.W.keepIn K (.ref a_cBadClues) = true)
    (h_e_BadClues : PySem.W.subIn K (.ref a_cBadClues) (.type "BaseException") = some true)
    (h_y_BadClues : PySem.W.typeIn K (.ref a_cBadClues) = some (.type "type"))
    (pg_One : PySem.W.plainGet K a_cOne Str.empty = true)
    (hd_One : PySem.W.hasDictIn K a_cOne = true)
    (po_One : PySem.W.plainOver K a_cOne = true)
    (sa_One : PySem.W.findIn K (.ref a_cOne) "__setattr__" = some (some (.builtin "object.__setattr__")))
    (na_One_cells : PySem.W.findIn K (.ref a_cOne) "cells" = some none)
    (pg_Two : PySem.W.plainGet K a_cTwo Str.empty = true)
    (hd_Two : PySem.W.hasDictIn K a_cTwo = true)
    (po_Two : PySem.W.plainOver K a_cTwo = true)
    (sa_Two : PySem.W.findIn K (.ref a_cTwo) "__setattr__" = some (some (.builtin "object.__setattr__")))
    (na_Two_one : PySem.W.findIn K (.ref a_cTwo) "one" = some none)
    (na_Two_other : PySem.W.findIn K (.ref a_cTwo) "other" = some none)
    (h_n_Never : PySem.W.nsIn K mainGlobals "Never" = some (some (.ref a_cNever)))
    (mk_Never : PySem.W.makesIn K a_cNever = true)
    (kc_Never : PySem.W.keepIn K (.ref a_cNever) = true)
    (oi_Never : PySem.W.findIn K (.ref a_cNever) "__init__" = some (some (.builtin "object.__init__")))
    (mk_One : PySem.W.makesIn K a_cOne = true)
    (kc_One : PySem.W.keepIn K (.ref a_cOne) = true)
    (if_One_init : PySem.W.isFn K (.ref f_One_init) = true)
    (mk_Two : PySem.W.makesIn K a_cTwo = true)
    (kc_Two : PySem.W.keepIn K (.ref a_cTwo) = true)
    (if_Two_init : PySem.W.isFn K (.ref f_Two_init) = true)
    (xa_BadGrid : PySem.W.findIn K (.ref a_cBadGrid) "__getattribute__" = some (some (.builtin "BaseException.__getattribute__")))
    (xb_BadGrid : PySem.W.findIn K (.ref a_cBadGrid) "__getattr__" = some none)
    (xc_BadGrid : PySem.W.findIn K (.ref a_cBadGrid) "__class__" = some (some (.builtin "object.__class__")))
    (xd_BadGrid : PySem.W.subIn K (.ref a_cBadGrid) (.type "BaseException") = some true)
    (xe_BadGrid : PySem.W.hasDictIn K a_cBadGrid = true)
    (xf_BadGrid : PySem.W.specialIn K (.builtin "object.__class__") "__get__" = some (some (.builtin "getset_descriptor.__get__")))
    (xg_BadGrid : PySem.W.takesIn K (.builtin "object.__class__") = some true)
    (xh_BadGrid : PySem.W.mroIn K a_cBadGrid (.type "object") = some true)
    (xa_BadCells : PySem.W.findIn K (.ref a_cBadCells) "__getattribute__" = some (some (.builtin "BaseException.__getattribute__")))
    (xb_BadCells : PySem.W.findIn K (.ref a_cBadCells) "__getattr__" = some none)
    (xc_BadCells : PySem.W.findIn K (.ref a_cBadCells) "__class__" = some (some (.builtin "object.__class__")))
    (xd_BadCells : PySem.W.subIn K (.ref a_cBadCells) (.type "BaseException") = some true)
    (xe_BadCells : PySem.W.hasDictIn K a_cBadCells = true)
    (xf_BadCells : PySem.W.specialIn K (.builtin "object.__class__") "__get__" = some (some (.builtin "getset_descriptor.__get__")))
    (xg_BadCells : PySem.W.takesIn K (.builtin "object.__class__") = some true)
    (xh_BadCells : PySem.W.mroIn K a_cBadCells (.type "object") = some true)
    (xa_BadClues : PySem.W.findIn K (.ref a_cBadClues) "__getattribute__" = some (some (.builtin "BaseException.__getattribute__")))
    (xb_BadClues : PySem.W.findIn K (.ref a_cBadClues) "__getattr__" = some none)
    (xc_BadClues : PySem.W.findIn K (.ref a_cBadClues) "__class__" = some (some (.builtin "object.__class__")))
    (xd_BadClues : PySem.W.subIn K (.ref a_cBadClues) (.type "BaseException") = some true)
    (xe_BadClues : PySem.W.hasDictIn K a_cBadClues = true)
    (xf_BadClues : PySem.W.specialIn K (.builtin "object.__class__") "__get__" = some (some (.builtin "getset_descriptor.__get__")))
    (xg_BadClues : PySem.W.takesIn K (.builtin "object.__class__") = some true)
    (xh_BadClues : PySem.W.mroIn K a_cBadClues (.type "object") = some true)
    (ic_BadCells : PySem.W.isClsIn K a_cBadCells = true)
    (it_BadCells : PySem.W.typeIn K (.ref a_cBadCells) = some (.type "type"))
    (is_BadCells : PySem.W.subIn K (.ref a_cBadCells) (.ref a_cBadCells) = some true)
    (h_ki_BadGrid_BadCells : PySem.W.subIn K (.ref a_cBadGrid) (.ref a_cBadCells) = some false)
    (ic_BadClues : PySem.W.isClsIn K a_cBadClues = true)
    (it_BadClues : PySem.W.typeIn K (.ref a_cBadClues) = some (.type "type"))
    (is_BadClues : PySem.W.subIn K (.ref a_cBadClues) (.ref a_cBadClues) = some true)
    (h_ki_BadGrid_BadClues : PySem.W.subIn K (.ref a_cBadGrid) (.ref a_cBadClues) = some false)
    (ic_NoRing : PySem.W.isClsIn K a_cNoRing = true)
    (it_NoRing : PySem.W.typeIn K (.ref a_cNoRing) = some (.type "type"))
    (is_NoRing : PySem.W.subIn K (.ref a_cNoRing) (.ref a_cNoRing) = some true)
    (h_ki_BadGrid_NoRing : PySem.W.subIn K (.ref a_cBadGrid) (.ref a_cNoRing) = some false)
    (ic_BadGrid : PySem.W.isClsIn K a_cBadGrid = true)
    (it_BadGrid : PySem.W.typeIn K (.ref a_cBadGrid) = some (.type "type"))
    (is_BadGrid : PySem.W.subIn K (.ref a_cBadGrid) (.ref a_cBadGrid) = some true)
    (h_ki_BadCells_BadGrid : PySem.W.subIn K (.ref a_cBadCells) (.ref a_cBadGrid) = some false)
    (h_ki_BadCells_BadClues : PySem.W.subIn K (.ref a_cBadCells) (.ref a_cBadClues) = some false)
    (h_ki_BadCells_NoRing : PySem.W.subIn K (.ref a_cBadCells) (.ref a_cNoRing) = some false)
    (h_ki_BadClues_BadGrid : PySem.W.subIn K (.ref a_cBadClues) (.ref a_cBadGrid) = some false)
    (h_ki_BadClues_BadCells : PySem.W.subIn K (.ref a_cBadClues) (.ref a_cBadCells) = some false)
    (h_ki_BadClues_NoRing : PySem.W.subIn K (.ref a_cBadClues) (.ref a_cNoRing) = some false)
    (h_kv_BadGrid : PySem.W.subIn K (.ref a_cBadGrid) (.type "ValueError") = some true)
    (h_kv_BadCells : PySem.W.subIn K (.ref a_cBadCells) (.type "ValueError") = some true)
    (h_kv_BadClues : PySem.W.subIn K (.ref a_cBadClues) (.type "ValueError") = some true)
    (hz_ValueError : PySem.W.nsIn K mainGlobals "ValueError" = some none)
    (h_n_RingError : PySem.W.nsIn K mainGlobals "RingError" = some (some (.ref a_cRingError)))
    (ma : PySem.W.subIn K (.ref a_cRingError) (.type "BaseException") = some true)
    (mb : PySem.W.hasDictIn K a_cRingError = true)
    (mc : PySem.W.typeIn K (.ref a_cRingError) = some (.type "type"))
    (md_BadGrid : PySem.W.subIn K (.ref a_cBadGrid) (.ref a_cRingError) = some true)
    (md_BadCells : PySem.W.subIn K (.ref a_cBadCells) (.ref a_cRingError) = some true)
    (md_BadClues : PySem.W.subIn K (.ref a_cBadClues) (.ref a_cRingError) = some true) :
    ∃ fd : FuncData, (∀ (s : Shared) (v : Value), BindsTo s fd ⟨[v], []⟩ [("_law_script", v)]) ∧ ∀ base : Heap, K.In base → base.Ns mainGlobals mg → FnOk l.prog w K mg base CX0 11 fa fd ["_law_script"] (sp_law K) := by
  have e := hfa.symm.trans (PySem.W.mg_of X G ha_law)
  cases e
  let T : Tx K mg :=
    { C := { cBadGrid := a_cBadGrid, cBadCells := a_cBadCells, cBadClues := a_cBadClues, cNoRing := a_cNoRing, cRingError := a_cRingError, cRing := a_cRing, cSplit := a_cSplit, cHole := a_cHole, cOne := a_cOne, cTwo := a_cTwo, cNever := a_cNever, cAnswer := 0 },
      f_is_whole := f_is_whole,
      fd_is_whole := PySem.W.fnOf "is_whole" "is_whole" (defArgs s_is_whole) (defBody s_is_whole) (defScope s_is_whole) .none kV_is_whole dc_is_whole pm_is_whole an_is_whole cd_is_whole ct_is_whole,
      F_is_whole := fun_mk (st := s_is_whole) hl_is_whole hc_is_whole hk_is_whole,
      g_is_whole := PySem.W.mg_of X G ha_is_whole,
      b_is_whole := (fun_mk (st := s_is_whole) hl_is_whole hc_is_whole hk_is_whole).binds (ps := ["thing"]) fun _ _ _ _ _ _ us hl => match us, hl with | [_], _ => rfl,
      f_check_grid := f_check_grid,
      fd_check_grid := PySem.W.fnOf "check_grid" "check_grid" (defArgs s_check_grid) (defBody s_check_grid) (defScope s_check_grid) .none kV_check_grid dc_check_grid pm_check_grid an_check_grid cd_check_grid ct_check_grid,
      F_check_grid := fun_mk (st := s_check_grid) hl_check_grid hc_check_grid hk_check_grid,
      g_check_grid := PySem.W.mg_of X G ha_check_grid,
      b_check_grid := (fun_mk (st := s_check_grid) hl_check_grid hc_check_grid hk_check_grid).binds (ps := ["grid"]) fun _ _ _ _ _ _ us hl => match us, hl with | [_], _ => rfl,
      f_check_few := f_check_few,
      fd_check_few := PySem.W.fnOf "check_few" "check_few" (defArgs s_check_few) (defBody s_check_few) (defScope s_check_few) .none kV_check_few dc_check_few pm_check_few an_check_few cd_check_few ct_check_few,
      F_check_few := fun_mk (st := s_check_few) hl_check_few hc_check_few hk_check_few,
      g_check_few := PySem.W.mg_of X G ha_check_few,
      b_check_few := (fun_mk (st := s_check_few) hl_check_few hc_check_few hk_check_few).binds (ps := ["grid"]) fun _ _ _ _ _ _ us hl => match us, hl with | [_], _ => rfl,
      f_beside := f_beside,
      fd_beside := PySem.W.fnOf "beside" "beside" (defArgs s_beside) (defBody s_beside) (defScope s_beside) .none kV_beside dc_beside pm_beside an_beside cd_beside ct_beside,
      F_beside := fun_mk (st := s_beside) hl_beside hc_beside hk_beside,
      g_beside := PySem.W.mg_of X G ha_beside,
      b_beside := (fun_mk (st := s_beside) hl_beside hc_beside hk_beside).binds (ps := ["grid", "cell"]) fun _ _ _ _ _ _ us hl => match us, hl with | [_, _], _ => rfl,
      f_spread := f_spread,
      fd_spread := PySem.W.fnOf "spread" "spread" (defArgs s_spread) (defBody s_spread) (defScope s_spread) .none kV_spread dc_spread pm_spread an_spread cd_spread ct_spread,
      F_spread := fun_mk (st := s_spread) hl_spread hc_spread hk_spread,
      g_spread := PySem.W.mg_of X G ha_spread,
      b_spread := (fun_mk (st := s_spread) hl_spread hc_spread hk_spread).binds (ps := ["grid", "first", "some"]) fun _ _ _ _ _ _ us hl => match us, hl with | [_, _, _], _ => rfl,
      f_is_inner := f_is_inner,
      fd_is_inner := PySem.W.fnOf "is_inner" "is_inner" (defArgs s_is_inner) (defBody s_is_inner) (defScope s_is_inner) .none kV_is_inner dc_is_inner pm_is_inner an_is_inner cd_is_inner ct_is_inner,
      F_is_inner := fun_mk (st := s_is_inner) hl_is_inner hc_is_inner hk_is_inner,
      g_is_inner := PySem.W.mg_of X G ha_is_inner,
      b_is_inner := (fun_mk (st := s_is_inner) hl_is_inner hc_is_inner hk_is_inner).binds (ps := ["grid", "cells", "cell"]) fun _ _ _ _ _ _ us hl => match us, hl with | [_, _, _], _ => rfl,
      f_first_inner := f_first_inner,
      fd_first_inner := PySem.W.fnOf "first_inner" "first_inner" (defArgs s_first_inner) (defBody s_first_inner) (defScope s_first_inner) .none kV_first_inner dc_first_inner pm_first_inner an_first_inner cd_first_inner ct_first_inner,
      F_first_inner := fun_mk (st := s_first_inner) hl_first_inner hc_first_inner hk_first_inner,
      g_first_inner := PySem.W.mg_of X G ha_first_inner,
      b_first_inner := (fun_mk (st := s_first_inner) hl_first_inner hc_first_inner hk_first_inner).binds (ps := ["grid", "cells"]) fun _ _ _ _ _ _ us hl => match us, hl with | [_, _], _ => rfl,
      f_is_ring := f_is_ring,
      fd_is_ring := PySem.W.fnOf "is_ring" "is_ring" (defArgs s_is_ring) (defBody s_is_ring) (defScope s_is_ring) .none kV_is_ring dc_is_ring pm_is_ring an_is_ring cd_is_ring ct_is_ring,
      F_is_ring := fun_mk (st := s_is_ring) hl_is_ring hc_is_ring hk_is_ring,
      g_is_ring := PySem.W.mg_of X G ha_is_ring,
      b_is_ring := (fun_mk (st := s_is_ring) hl_is_ring hc_is_ring hk_is_ring).binds (ps := ["grid", "cells"]) fun _ _ _ _ _ _ us hl => match us, hl with | [_, _], _ => rfl,
      f_all_rings := f_all_rings,
      fd_all_rings := PySem.W.fnOf "all_rings" "all_rings" (defArgs s_all_rings) (defBody s_all_rings) (defScope s_all_rings) .none kV_all_rings dc_all_rings pm_all_rings an_all_rings cd_all_rings ct_all_rings,
      F_all_rings := fun_mk (st := s_all_rings) hl_all_rings hc_all_rings hk_all_rings,
      g_all_rings := PySem.W.mg_of X G ha_all_rings,
      b_all_rings := (fun_mk (st := s_all_rings) hl_all_rings hc_all_rings hk_all_rings).binds (ps := ["grid"]) fun _ _ _ _ _ _ us hl => match us, hl with | [_], _ => rfl,
      f_rings := f_rings,
      fd_rings := PySem.W.fnOf "rings" "rings" (defArgs s_rings) (defBody s_rings) (defScope s_rings) .none kV_rings dc_rings pm_rings an_rings cd_rings ct_rings,
      F_rings := fun_mk (st := s_rings) hl_rings hc_rings hk_rings,
      g_rings := PySem.W.mg_of X G ha_rings,
      b_rings := (fun_mk (st := s_rings) hl_rings hc_rings hk_rings).binds (ps := ["grid"]) fun _ _ _ _ _ _ us hl => match us, hl with | [_], _ => rfl,
      f_check_cells := f_check_cells,
      fd_check_cells := PySem.W.fnOf "check_cells" "check_cells" (defArgs s_check_cells) (defBody s_check_cells) (defScope s_check_cells) .none kV_check_cells dc_check_cells pm_check_cells an_check_cells cd_check_cells ct_check_cells,
      F_check_cells := fun_mk (st := s_check_cells) hl_check_cells hc_check_cells hk_check_cells,
      g_check_cells := PySem.W.mg_of X G ha_check_cells,
      b_check_cells := (fun_mk (st := s_check_cells) hl_check_cells hc_check_cells hk_check_cells).binds (ps := ["grid", "cells"]) fun _ _ _ _ _ _ us hl => match us, hl with | [_, _], _ => rfl,
      f_sides_of := f_sides_of,
      fd_sides_of := PySem.W.fnOf "sides_of" "sides_of" (defArgs s_sides_of) (defBody s_sides_of) (defScope s_sides_of) .none kV_sides_of dc_sides_of pm_sides_of an_sides_of cd_sides_of ct_sides_of,
      F_sides_of := fun_mk (st := s_sides_of) hl_sides_of hc_sides_of hk_sides_of,
      g_sides_of := PySem.W.mg_of X G ha_sides_of,
      b_sides_of := (fun_mk (st := s_sides_of) hl_sides_of hc_sides_of hk_sides_of).binds (ps := ["grid", "cells", "cell"]) fun _ _ _ _ _ _ us hl => match us, hl with | [_, _, _], _ => rfl,
      f_numbers_of := f_numbers_of,
      fd_numbers_of := PySem.W.fnOf "numbers_of" "numbers_of" (defArgs s_numbers_of) (defBody s_numbers_of) (defScope s_numbers_of) .none kV_numbers_of dc_numbers_of pm_numbers_of an_numbers_of cd_numbers_of ct_numbers_of,
      F_numbers_of := fun_mk (st := s_numbers_of) hl_numbers_of hc_numbers_of hk_numbers_of,
      g_numbers_of := PySem.W.mg_of X G ha_numbers_of,
      b_numbers_of := (fun_mk (st := s_numbers_of) hl_numbers_of hc_numbers_of hk_numbers_of).binds (ps := ["grid", "cells"]) fun _ _ _ _ _ _ us hl => match us, hl with | [_, _], _ => rfl,
      f_numbers := f_numbers,
      fd_numbers := PySem.W.fnOf "numbers" "numbers" (defArgs s_numbers) (defBody s_numbers) (defScope s_numbers) .none kV_numbers dc_numbers pm_numbers an_numbers cd_numbers ct_numbers,
      F_numbers := fun_mk (st := s_numbers) hl_numbers hc_numbers hk_numbers,
      g_numbers := PySem.W.mg_of X G ha_numbers,
      b_numbers := (fun_mk (st := s_numbers) hl_numbers hc_numbers hk_numbers).binds (ps := ["grid", "cells"]) fun _ _ _ _ _ _ us hl => match us, hl with | [_, _], _ => rfl,
      g_Split := PySem.W.mg_of X G h_n_Split,
      f_Split_init := f_Split_init,
      fd_Split_init := PySem.W.fnOf "__init__" "Split.__init__" (defArgs s_Split_init) (defBody s_Split_init) (defScope s_Split_init) .none kV_Split_init dc_Split_init pm_Split_init an_Split_init cd_Split_init ct_Split_init,
      F_Split_init := fun_mk (st := s_Split_init) hl_Split_init hc_Split_init hk_Split_init,
      b_Split_init := (fun_mk (st := s_Split_init) hl_Split_init hc_Split_init hk_Split_init).binds (ps := ["self", "one", "other"]) fun _ _ _ _ _ _ us hl => match us, hl with | [_, _, _], _ => rfl,
      g_Hole := PySem.W.mg_of X G h_n_Hole,
      f_Hole_init := f_Hole_init,
      fd_Hole_init := PySem.W.fnOf "__init__" "Hole.__init__" (defArgs s_Hole_init) (defBody s_Hole_init) (defScope s_Hole_init) .none kV_Hole_init dc_Hole_init pm_Hole_init an_Hole_init cd_Hole_init ct_Hole_init,
      F_Hole_init := fun_mk (st := s_Hole_init) hl_Hole_init hc_Hole_init hk_Hole_init,
      b_Hole_init := (fun_mk (st := s_Hole_init) hl_Hole_init hc_Hole_init hk_Hole_init).binds (ps := ["self", "cell"]) fun _ _ _ _ _ _ us hl => match us, hl with | [_, _], _ => rfl,
      f_judged := f_judged,
      fd_judged := PySem.W.fnOf "judged" "judged" (defArgs s_judged) (defBody s_judged) (defScope s_judged) .none kV_judged dc_judged pm_judged an_judged cd_judged ct_judged,
      F_judged := fun_mk (st := s_judged) hl_judged hc_judged hk_judged,
      g_judged := PySem.W.mg_of X G ha_judged,
      b_judged := (fun_mk (st := s_judged) hl_judged hc_judged hk_judged).binds (ps := ["grid", "cells"]) fun _ _ _ _ _ _ us hl => match us, hl with | [_, _], _ => rfl,
      f_side_ahead := f_side_ahead,
      fd_side_ahead := PySem.W.fnOf "side_ahead" "side_ahead" (defArgs s_side_ahead) (defBody s_side_ahead) (defScope s_side_ahead) .none kV_side_ahead dc_side_ahead pm_side_ahead an_side_ahead cd_side_ahead ct_side_ahead,
      F_side_ahead := fun_mk (st := s_side_ahead) hl_side_ahead hc_side_ahead hk_side_ahead,
      g_side_ahead := PySem.W.mg_of X G ha_side_ahead,
      b_side_ahead := (fun_mk (st := s_side_ahead) hl_side_ahead hc_side_ahead hk_side_ahead).binds (ps := ["grid", "cells", "point", "turn"]) fun _ _ _ _ _ _ us hl => match us, hl with | [_, _, _, _], _ => rfl,
      f_walk := f_walk,
      fd_walk := PySem.W.fnOf "walk" "walk" (defArgs s_walk) (defBody s_walk) (defScope s_walk) .none kV_walk dc_walk pm_walk an_walk cd_walk ct_walk,
      F_walk := fun_mk (st := s_walk) hl_walk hc_walk hk_walk,
      g_walk := PySem.W.mg_of X G ha_walk,
      b_walk := (fun_mk (st := s_walk) hl_walk hc_walk hk_walk).binds (ps := ["grid", "cells"]) fun _ _ _ _ _ _ us hl => match us, hl with | [_, _], _ => rfl,
      f_l_with_grid := f_l_with_grid,
      fd_l_with_grid := PySem.W.fnOf "_law_with_grid" "_law_with_grid" (defArgs s_l_with_grid) (defBody s_l_with_grid) (defScope s_l_with_grid) .none kV_l_with_grid dc_l_with_grid pm_l_with_grid an_l_with_grid cd_l_with_grid ct_l_with_grid,
      F_l_with_grid := fun_mk (st := s_l_with_grid) hl_l_with_grid hc_l_with_grid hk_l_with_grid,
      g_l_with_grid := PySem.W.mg_of X G ha_l_with_grid,
      b_l_with_grid := (fun_mk (st := s_l_with_grid) hl_l_with_grid hc_l_with_grid hk_l_with_grid).binds (ps := ["_law_door", "_law_thing"]) fun _ _ _ _ _ _ us hl => match us, hl with | [_, _], _ => rfl,
      f_l_no_grids := f_l_no_grids,
      fd_l_no_grids := PySem.W.fnOf "_law_no_grids" "_law_no_grids" (defArgs s_l_no_grids) (defBody s_l_no_grids) (defScope s_l_no_grids) .none kV_l_no_grids dc_l_no_grids pm_l_no_grids an_l_no_grids cd_l_no_grids ct_l_no_grids,
      F_l_no_grids := fun_mk (st := s_l_no_grids) hl_l_no_grids hc_l_no_grids hk_l_no_grids,
      g_l_no_grids := PySem.W.mg_of X G ha_l_no_grids,
      b_l_no_grids := (fun_mk (st := s_l_no_grids) hl_l_no_grids hc_l_no_grids hk_l_no_grids).binds (ps := ["_law_cell"]) fun _ _ _ _ _ _ us hl => match us, hl with | [_], _ => rfl,
      f_l_with_great := f_l_with_great,
      fd_l_with_great := PySem.W.fnOf "_law_with_great" "_law_with_great" (defArgs s_l_with_great) (defBody s_l_with_great) (defScope s_l_with_great) .none kV_l_with_great dc_l_with_great pm_l_with_great an_l_with_great cd_l_with_great ct_l_with_great,
      F_l_with_great := fun_mk (st := s_l_with_great) hl_l_with_great hc_l_with_great hk_l_with_great,
      g_l_with_great := PySem.W.mg_of X G ha_l_with_great,
      b_l_with_great := (fun_mk (st := s_l_with_great) hl_l_with_great hc_l_with_great hk_l_with_great).binds (ps := ["_law_door", "_law_thing"]) fun _ _ _ _ _ _ us hl => match us, hl with | [_, _], _ => rfl,
      f_l_great := f_l_great,
      fd_l_great := PySem.W.fnOf "_law_great" "_law_great" (defArgs s_l_great) (defBody s_l_great) (defScope s_l_great) .none kV_l_great dc_l_great pm_l_great an_l_great cd_l_great ct_l_great,
      F_l_great := fun_mk (st := s_l_great) hl_l_great hc_l_great hk_l_great,
      g_l_great := PySem.W.mg_of X G ha_l_great,
      b_l_great := (fun_mk (st := s_l_great) hl_l_great hc_l_great hk_l_great).binds (ps := ["_law_cell"]) fun _ _ _ _ _ _ us hl => match us, hl with | [_], _ => rfl,
      f_l_with_cells := f_l_with_cells,
      fd_l_with_cells := PySem.W.fnOf "_law_with_cells" "_law_with_cells" (defArgs s_l_with_cells) (defBody s_l_with_cells) (defScope s_l_with_cells) .none kV_l_with_cells dc_l_with_cells pm_l_with_cells an_l_with_cells cd_l_with_cells ct_l_with_cells,
      F_l_with_cells := fun_mk (st := s_l_with_cells) hl_l_with_cells hc_l_with_cells hk_l_with_cells,
      g_l_with_cells := PySem.W.mg_of X G ha_l_with_cells,
      b_l_with_cells := (fun_mk (st := s_l_with_cells) hl_l_with_cells hc_l_with_cells hk_l_with_cells).binds (ps := ["_law_door", "_law_thing"]) fun _ _ _ _ _ _ us hl => match us, hl with | [_, _], _ => rfl,
      f_l_no_cells := f_l_no_cells,
      fd_l_no_cells := PySem.W.fnOf "_law_no_cells" "_law_no_cells" (defArgs s_l_no_cells) (defBody s_l_no_cells) (defScope s_l_no_cells) .none kV_l_no_cells dc_l_no_cells pm_l_no_cells an_l_no_cells cd_l_no_cells ct_l_no_cells,
      F_l_no_cells := fun_mk (st := s_l_no_cells) hl_l_no_cells hc_l_no_cells hk_l_no_cells,
      g_l_no_cells := PySem.W.mg_of X G ha_l_no_cells,
      b_l_no_cells := (fun_mk (st := s_l_no_cells) hl_l_no_cells hc_l_no_cells hk_l_no_cells).binds (ps := ["_law_cell"]) fun _ _ _ _ _ _ us hl => match us, hl with | [_], _ => rfl,
      f_check_clues := f_check_clues,
      fd_check_clues := PySem.W.fnOf "check_clues" "check_clues" (defArgs s_check_clues) (defBody s_check_clues) (defScope s_check_clues) .none kV_check_clues dc_check_clues pm_check_clues an_check_clues cd_check_clues ct_check_clues,
      F_check_clues := fun_mk (st := s_check_clues) hl_check_clues hc_check_clues hk_check_clues,
      g_check_clues := PySem.W.mg_of X G ha_check_clues,
      b_check_clues := (fun_mk (st := s_check_clues) hl_check_clues hc_check_clues hk_check_clues).binds (ps := ["clues"]) fun _ _ _ _ _ _ us hl => match us, hl with | [_], _ => rfl,
      f_fits := f_fits,
      fd_fits := PySem.W.fnOf "fits" "fits" (defArgs s_fits) (defBody s_fits) (defScope s_fits) .none kV_fits dc_fits pm_fits an_fits cd_fits ct_fits,
      F_fits := fun_mk (st := s_fits) hl_fits hc_fits hk_fits,
      g_fits := PySem.W.mg_of X G ha_fits,
      b_fits := (fun_mk (st := s_fits) hl_fits hc_fits hk_fits).binds (ps := ["clues", "cells"]) fun _ _ _ _ _ _ us hl => match us, hl with | [_, _], _ => rfl,
      f_fitting_of := f_fitting_of,
      fd_fitting_of := PySem.W.fnOf "fitting_of" "fitting_of" (defArgs s_fitting_of) (defBody s_fitting_of) (defScope s_fitting_of) .none kV_fitting_of dc_fitting_of pm_fitting_of an_fitting_of cd_fitting_of ct_fitting_of,
      F_fitting_of := fun_mk (st := s_fitting_of) hl_fitting_of hc_fitting_of hk_fitting_of,
      g_fitting_of := PySem.W.mg_of X G ha_fitting_of,
      b_fitting_of := (fun_mk (st := s_fitting_of) hl_fitting_of hc_fitting_of hk_fitting_of).binds (ps := ["clues"]) fun _ _ _ _ _ _ us hl => match us, hl with | [_], _ => rfl,
      f_fitting := f_fitting,
      fd_fitting := PySem.W.fnOf "fitting" "fitting" (defArgs s_fitting) (defBody s_fitting) (defScope s_fitting) .none kV_fitting dc_fitting pm_fitting an_fitting cd_fitting ct_fitting,
      F_fitting := fun_mk (st := s_fitting) hl_fitting hc_fitting hk_fitting,
      g_fitting := PySem.W.mg_of X G ha_fitting,
      b_fitting := (fun_mk (st := s_fitting) hl_fitting hc_fitting hk_fitting).binds (ps := ["clues"]) fun _ _ _ _ _ _ us hl => match us, hl with | [_], _ => rfl,
      g_One := PySem.W.mg_of X G h_n_One,
      f_One_init := f_One_init,
      fd_One_init := PySem.W.fnOf "__init__" "One.__init__" (defArgs s_One_init) (defBody s_One_init) (defScope s_One_init) .none kV_One_init dc_One_init pm_One_init an_One_init cd_One_init ct_One_init,
      F_One_init := fun_mk (st := s_One_init) hl_One_init hc_One_init hk_One_init,
      b_One_init := (fun_mk (st := s_One_init) hl_One_init hc_One_init hk_One_init).binds (ps := ["self", "cells"]) fun _ _ _ _ _ _ us hl => match us, hl with | [_, _], _ => rfl,
      g_Two := PySem.W.mg_of X G h_n_Two,
      f_Two_init := f_Two_init,
      fd_Two_init := PySem.W.fnOf "__init__" "Two.__init__" (defArgs s_Two_init) (defBody s_Two_init) (defScope s_Two_init) .none kV_Two_init dc_Two_init pm_Two_init an_Two_init cd_Two_init ct_Two_init,
      F_Two_init := fun_mk (st := s_Two_init) hl_Two_init hc_Two_init hk_Two_init,
      b_Two_init := (fun_mk (st := s_Two_init) hl_Two_init hc_Two_init hk_Two_init).binds (ps := ["self", "one", "other"]) fun _ _ _ _ _ _ us hl => match us, hl with | [_, _, _], _ => rfl,
      f_told := f_told,
      fd_told := PySem.W.fnOf "told" "told" (defArgs s_told) (defBody s_told) (defScope s_told) .none kV_told dc_told pm_told an_told cd_told ct_told,
      F_told := fun_mk (st := s_told) hl_told hc_told hk_told,
      g_told := PySem.W.mg_of X G ha_told,
      b_told := (fun_mk (st := s_told) hl_told hc_told hk_told).binds (ps := ["clues"]) fun _ _ _ _ _ _ us hl => match us, hl with | [_], _ => rfl,
      f_l_with_clues := f_l_with_clues,
      fd_l_with_clues := PySem.W.fnOf "_law_with_clues" "_law_with_clues" (defArgs s_l_with_clues) (defBody s_l_with_clues) (defScope s_l_with_clues) .none kV_l_with_clues dc_l_with_clues pm_l_with_clues an_l_with_clues cd_l_with_clues ct_l_with_clues,
      F_l_with_clues := fun_mk (st := s_l_with_clues) hl_l_with_clues hc_l_with_clues hk_l_with_clues,
      g_l_with_clues := PySem.W.mg_of X G ha_l_with_clues,
      b_l_with_clues := (fun_mk (st := s_l_with_clues) hl_l_with_clues hc_l_with_clues hk_l_with_clues).binds (ps := ["_law_door", "_law_thing"]) fun _ _ _ _ _ _ us hl => match us, hl with | [_, _], _ => rfl,
      f_l_no_clues := f_l_no_clues,
      fd_l_no_clues := PySem.W.fnOf "_law_no_clues" "_law_no_clues" (defArgs s_l_no_clues) (defBody s_l_no_clues) (defScope s_l_no_clues) .none kV_l_no_clues dc_l_no_clues pm_l_no_clues an_l_no_clues cd_l_no_clues ct_l_no_clues,
      F_l_no_clues := fun_mk (st := s_l_no_clues) hl_l_no_clues hc_l_no_clues hk_l_no_clues,
      g_l_no_clues := PySem.W.mg_of X G ha_l_no_clues,
      b_l_no_clues := (fun_mk (st := s_l_no_clues) hl_l_no_clues hc_l_no_clues hk_l_no_clues).binds (ps := ["_law_cell"]) fun _ _ _ _ _ _ us hl => match us, hl with | [_], _ => rfl,
      f_l_alone := f_l_alone,
      fd_l_alone := PySem.W.fnOf "_law_alone" "_law_alone" (defArgs s_l_alone) (defBody s_l_alone) (defScope s_l_alone) .none kV_l_alone dc_l_alone pm_l_alone an_l_alone cd_l_alone ct_l_alone,
      F_l_alone := fun_mk (st := s_l_alone) hl_l_alone hc_l_alone hk_l_alone,
      g_l_alone := PySem.W.mg_of X G ha_l_alone,
      b_l_alone := (fun_mk (st := s_l_alone) hl_l_alone hc_l_alone hk_l_alone).binds (ps := ["_law_error", "_law_due"]) fun _ _ _ _ _ _ us hl => match us, hl with | [_, _], _ => rfl,
      f_l_refused := f_l_refused,
      fd_l_refused := PySem.W.fnOf "_law_refused" "_law_refused" (defArgs s_l_refused) (defBody s_l_refused) (defScope s_l_refused) .none kV_l_refused dc_l_refused pm_l_refused an_l_refused cd_l_refused ct_l_refused,
      F_l_refused := fun_mk (st := s_l_refused) hl_l_refused hc_l_refused hk_l_refused,
      g_l_refused := PySem.W.mg_of X G ha_l_refused,
      b_l_refused := (fun_mk (st := s_l_refused) hl_l_refused hc_l_refused hk_l_refused).binds (ps := ["_law_ask", "_law_door", "_law_thing", "_law_due"]) fun _ _ _ _ _ _ us hl => match us, hl with | [_, _, _, _], _ => rfl,
      f_law := fa,
      fd_law := PySem.W.fnOf "law" "law" (defArgs s_law) (defBody s_law) (defScope s_law) .none kV_law dc_law pm_law an_law cd_law ct_law,
      F_law := fun_mk (st := s_law) hl_law hc_law hk_law,
      g_law := PySem.W.mg_of X G ha_law,
      b_law := (fun_mk (st := s_law) hl_law hc_law hk_law).binds (ps := ["_law_script"]) fun _ _ _ _ _ _ us hl => match us, hl with | [_], _ => rfl,
      n_isinstance := PySem.W.mg_none_of X G hz_isinstance,
      n_int := PySem.W.mg_none_of X G hz_int,
      n_bool := PySem.W.mg_none_of X G hz_bool,
      n_tuple := PySem.W.mg_none_of X G hz_tuple,
      n_len := PySem.W.mg_none_of X G hz_len,
      n_all := PySem.W.mg_none_of X G hz_all,
      k_MOST := k_MOST,
      g_MOST := PySem.W.mg_of X G hg_MOST,
      g_BadGrid := PySem.W.mg_of X G h_n_BadGrid,
      x_BadGrid := h_x_BadGrid,
      k_BadGrid := h_k_BadGrid,
      e_BadGrid := h_e_BadGrid,
      y_BadGrid := h_y_BadGrid,
      k_FEW := k_FEW,
      g_FEW := PySem.W.mg_of X G hg_FEW,
      n_range := PySem.W.mg_none_of X G hz_range,
      n_sorted := PySem.W.mg_none_of X G hz_sorted,
      n_list := PySem.W.mg_none_of X G hz_list,
      g_BadCells := PySem.W.mg_of X G h_n_BadCells,
      x_BadCells := h_x_BadCells,
      k_BadCells := h_k_BadCells,
      e_BadCells := h_e_BadCells,
      y_BadCells := h_y_BadCells,
      n_any := PySem.W.mg_none_of X G hz_any,
      n_zip := PySem.W.mg_none_of X G hz_zip,
      cl_Split := ⟨pg_Split, hd_Split, po_Split, sa_Split⟩,
      cf_Split := ⟨⟨pg_Split, hd_Split, po_Split, sa_Split⟩, fun f hf => by simp only [List.mem_cons, List.not_mem_nil, or_false] at hf; rcases hf with rfl | rfl <;> assumption⟩,
      cl_Hole := ⟨pg_Hole, hd_Hole, po_Hole, sa_Hole⟩,
      cf_Hole := ⟨⟨pg_Hole, hd_Hole, po_Hole, sa_Hole⟩, fun f hf => by simp only [List.mem_cons, List.not_mem_nil, or_false] at hf; rcases hf with rfl <;> assumption⟩,
      m_Split := ⟨mk_Split, ha_Split_init, if_Split_init, kc_Split⟩,
      g_Ring := PySem.W.mg_of X G h_n_Ring,
      m_Ring := ⟨mk_Ring, oi_Ring, kc_Ring⟩,
      m_Hole := ⟨mk_Hole, ha_Hole_init, if_Hole_init, kc_Hole⟩,
      g_NoRing := PySem.W.mg_of X G h_n_NoRing,
      x_NoRing := h_x_NoRing,
      k_NoRing := h_k_NoRing,
      e_NoRing := h_e_NoRing,
      y_NoRing := h_y_NoRing,
      g_BadClues := PySem.W.mg_of X G h_n_BadClues,
      x_BadClues := h_x_BadClues,
      k_BadClues := h_k_BadClues,
      e_BadClues := h_e_BadClues,
      y_BadClues := h_y_BadClues,
      cl_One := ⟨pg_One, hd_One, po_One, sa_One⟩,
      cf_One := ⟨⟨pg_One, hd_One, po_One, sa_One⟩, fun f hf => by simp only [List.mem_cons, List.not_mem_nil, or_false] at hf; rcases hf with rfl <;> assumption⟩,
      cl_Two := ⟨pg_Two, hd_Two, po_Two, sa_Two⟩,
      cf_Two := ⟨⟨pg_Two, hd_Two, po_Two, sa_Two⟩, fun f hf => by simp only [List.mem_cons, List.not_mem_nil, or_false] at hf; rcases hf with rfl | rfl <;> assumption⟩,
      g_Never := PySem.W.mg_of X G h_n_Never,
      m_Never := ⟨mk_Never, oi_Never, kc_Never⟩,
      m_One := ⟨mk_One, ha_One_init, if_One_init, kc_One⟩,
      m_Two := ⟨mk_Two, ha_Two_init, if_Two_init, kc_Two⟩,
      ex_BadGrid := ⟨xa_BadGrid, xb_BadGrid, xd_BadGrid, xe_BadGrid, xc_BadGrid, xf_BadGrid, xg_BadGrid, xh_BadGrid⟩,
      ex_BadCells := ⟨xa_BadCells, xb_BadCells, xd_BadCells, xe_BadCells, xc_BadCells, xf_BadCells, xg_BadCells, xh_BadCells⟩,
      ex_BadClues := ⟨xa_BadClues, xb_BadClues, xd_BadClues, xe_BadClues, xc_BadClues, xf_BadClues, xg_BadClues, xh_BadClues⟩,
      ki_BadGrid_BadGrid := kit_self,
      ki_BadGrid_BadCells := kit_not ic_BadCells it_BadCells h_ki_BadGrid_BadCells is_BadCells,
      ki_BadGrid_BadClues := kit_not ic_BadClues it_BadClues h_ki_BadGrid_BadClues is_BadClues,
      ki_BadGrid_NoRing := kit_not ic_NoRing it_NoRing h_ki_BadGrid_NoRing is_NoRing,
      ki_BadCells_BadGrid := kit_not ic_BadGrid it_BadGrid h_ki_BadCells_BadGrid is_BadGrid,
      ki_BadCells_BadCells := kit_self,
      ki_BadCells_BadClues := kit_not ic_BadClues it_BadClues h_ki_BadCells_BadClues is_BadClues,
      ki_BadCells_NoRing := kit_not ic_NoRing it_NoRing h_ki_BadCells_NoRing is_NoRing,
      ki_BadClues_BadGrid := kit_not ic_BadGrid it_BadGrid h_ki_BadClues_BadGrid is_BadGrid,
      ki_BadClues_BadCells := kit_not ic_BadCells it_BadCells h_ki_BadClues_BadCells is_BadCells,
      ki_BadClues_BadClues := kit_self,
      ki_BadClues_NoRing := kit_not ic_NoRing it_NoRing h_ki_BadClues_NoRing is_NoRing,
      kv_BadGrid := kit_subT (by decide +kernel) h_kv_BadGrid,
      kv_BadCells := kit_subT (by decide +kernel) h_kv_BadCells,
      kv_BadClues := kit_subT (by decide +kernel) h_kv_BadClues,
      n_ValueError := PySem.W.mg_none_of X G hz_ValueError,
      g_RingError := PySem.W.mg_of X G h_n_RingError,
      em_BadGrid := PySem.W.exm_ref ma mb mc md_BadGrid,
      em_BadCells := PySem.W.exm_ref ma mb mc md_BadCells,
      em_BadClues := PySem.W.exm_ref ma mb mc md_BadClues }
  exact ⟨T.fd_law, fun s v => .of_eq rfl, fun base _ _ => ok_law T⟩
end Sd
open PySem PySem.W PyProof.Rows
set_option maxHeartbeats 0 in
theorem PySem.Challenge.cw_sidering_k07_refused_holds : PySem.Challenge.rw_sidering_k07_refused.Holds := by
  w_on; o_law; k_head; (case hw => w_witness2)
  k_fill
  refine L2.walk_ofB (l := PySem.Challenge.rw_sidering_k07_refused) (n := 63) (k := 11) (x := "_law_script") (CX := fun _ => L2.CX0) (sp := fun w => Sd.sp_law _) rfl (by decide) rfl ⟨rfl, by decide, by decide⟩ (fun w h Y => PySem.W.kIn_of Y) ?F (fun _ _ a ns hl hb _ hS => ⟨a, ns, rfl, hS, ⟨hl, hb⟩, fun _ => rfl⟩) (fun _ _ _ _ _ h => h)
  case F =>
    intro w mg fa h KX G hmg
    refine' Sd.all_mk KX G hmg ?ha_is_whole ?hl_is_whole ?hc_is_whole ?hk_is_whole ?ha_check_grid ?hl_check_grid ?hc_check_grid ?hk_check_grid ?ha_check_few ?hl_check_few ?hc_check_few ?hk_check_few ?ha_beside ?hl_beside ?hc_beside ?hk_beside ?ha_spread ?hl_spread ?hc_spread ?hk_spread ?ha_is_inner ?hl_is_inner ?hc_is_inner ?hk_is_inner ?ha_first_inner ?hl_first_inner ?hc_first_inner ?hk_first_inner ?ha_is_ring ?hl_is_ring ?hc_is_ring ?hk_is_ring ?ha_all_rings ?hl_all_rings ?hc_all_rings ?hk_all_rings ?ha_rings ?hl_rings ?hc_rings ?hk_rings ?ha_check_cells ?hl_check_cells ?hc_check_cells ?hk_check_cells ?ha_sides_of ?hl_sides_of ?hc_sides_of ?hk_sides_of ?ha_numbers_of ?hl_numbers_of ?hc_numbers_of ?hk_numbers_of ?ha_numbers ?hl_numbers ?hc_numbers ?hk_numbers ?h_n_Split ?ha_Split_init ?hl_Split_init ?hc_Split_init ?hk_Split_init ?h_n_Hole ?ha_Hole_init ?hl_Hole_init ?hc_Hole_init ?hk_Hole_init ?ha_judged ?hl_judged ?hc_judged ?hk_judged ?ha_side_ahead ?hl_side_ahead ?hc_side_ahead ?hk_side_ahead ?ha_walk ?hl_walk ?hc_walk ?hk_walk ?ha_l_with_grid ?hl_l_with_grid ?hc_l_with_grid ?hk_l_with_grid ?ha_l_no_grids ?hl_l_no_grids ?hc_l_no_grids ?hk_l_no_grids ?ha_l_with_great ?hl_l_with_great ?hc_l_with_great ?hk_l_with_great ?ha_l_great ?hl_l_great ?hc_l_great ?hk_l_great ?ha_l_with_cells ?hl_l_with_cells ?hc_l_with_cells ?hk_l_with_cells ?ha_l_no_cells ?hl_l_no_cells ?hc_l_no_cells ?hk_l_no_cells ?ha_check_clues ?hl_check_clues ?hc_check_clues ?hk_check_clues ?ha_fits ?hl_fits ?hc_fits ?hk_fits ?ha_fitting_of ?hl_fitting_of ?hc_fitting_of ?hk_fitting_of ?ha_fitting ?hl_fitting ?hc_fitting ?hk_fitting ?h_n_One ?ha_One_init ?hl_One_init ?hc_One_init ?hk_One_init ?h_n_Two ?ha_Two_init ?hl_Two_init ?hc_Two_init ?hk_Two_init ?ha_told ?hl_told ?hc_told ?hk_told ?ha_l_with_clues ?hl_l_with_clues ?hc_l_with_clues ?hk_l_with_clues ?ha_l_no_clues ?hl_l_no_clues ?hc_l_no_clues ?hk_l_no_clues ?ha_l_alone ?hl_l_alone ?hc_l_alone ?hk_l_alone ?ha_l_refused ?hl_l_refused ?hc_l_refused ?hk_l_refused ?ha_law ?hl_law ?hc_law ?hk_law ?hz_isinstance ?hz_int ?hz_bool ?hz_tuple ?hz_len ?hz_all ?hg_MOST ?h_n_BadGrid ?h_x_BadGrid ?h_k_BadGrid ?h_e_BadGrid ?h_y_BadGrid ?hg_FEW ?hz_range ?hz_sorted ?hz_list ?h_n_BadCells ?h_x_BadCells ?h_k_BadCells ?h_e_BadCells ?h_y_BadCells ?hz_any ?hz_zip ?pg_Split ?hd_Split ?po_Split ?sa_Split ?na_Split_one ?na_Split_other ?pg_Hole ?hd_Hole ?po_Hole ?sa_Hole ?na_Hole_cell ?mk_Split ?kc_Split ?if_Split_init ?h_n_Ring ?mk_Ring ?kc_Ring ?oi_Ring ?mk_Hole ?kc_Hole ?if_Hole_init ?h_n_NoRing ?h_x_NoRing ?h_k_NoRing ?h_e_NoRing ?h_y_NoRing ?h_n_BadClues ?h_x_BadClues ?h_k_BadClues ?h_e_BadClues ?h_y_BadClues ?pg_One ?hd_One ?po_One ?sa_One ?na_One_cells ?pg_Two ?hd_Two ?po_Two ?sa_Two ?na_Two_one ?na_Two_other ?h_n_Never ?mk_Never ?kc_Never ?oi_Never ?mk_One ?kc_One ?if_One_init ?mk_Two ?kc_Two ?if_Two_init ?xa_BadGrid ?xb_BadGrid ?xc_BadGrid ?xd_BadGrid ?xe_BadGrid ?xf_BadGrid ?xg_BadGrid ?xh_BadGrid ?xa_BadCells ?xb_BadCells ?xc_BadCells ?xd_BadCells ?xe_BadCells ?xf_BadCells ?xg_BadCells ?xh_BadCells ?xa_BadClues ?xb_BadClues ?xc_BadClues ?xd_BadClues ?xe_BadClues ?xf_BadClues ?xg_BadClues ?xh_BadClues ?ic_BadCells ?it_BadCells ?is_BadCells ?h_ki_BadGrid_BadCells ?ic_BadClues ?it_BadClues ?is_BadClues ?h_ki_BadGrid_BadClues ?ic_NoRing ?it_NoRing ?is_NoRing ?h_ki_BadGrid_NoRing ?ic_BadGrid ?it_BadGrid ?is_BadGrid ?h_ki_BadCells_BadGrid ?h_ki_BadCells_BadClues ?h_ki_BadCells_NoRing ?h_ki_BadClues_BadGrid ?h_ki_BadClues_BadCells ?h_ki_BadClues_NoRing ?h_kv_BadGrid ?h_kv_BadCells ?h_kv_BadClues ?hz_ValueError ?h_n_RingError ?ma ?mb ?mc ?md_BadGrid ?md_BadCells ?md_BadClues
    (case ha_is_whole => k_is)
    (case hl_is_whole => k_is)
    (case hc_is_whole => k_is)
    (case hk_is_whole => k_is)
    (case ha_check_grid => k_is)
    (case hl_check_grid => k_is)
    (case hc_check_grid => k_is)
    (case hk_check_grid => k_is)
    (case ha_check_few => k_is)
    (case hl_check_few => k_is)
    (case hc_check_few => k_is)
    (case hk_check_few => k_is)
    (case ha_beside => k_is)
    (case hl_beside => k_is)
    (case hc_beside => k_is)
    (case hk_beside => k_is)
    (case ha_spread => k_is)
    (case hl_spread => k_is)
    (case hc_spread => k_is)
    (case hk_spread => k_is)
    (case ha_is_inner => k_is)
    (case hl_is_inner => k_is)
    (case hc_is_inner => k_is)
    (case hk_is_inner => k_is)
    (case ha_first_inner => k_is)
    (case hl_first_inner => k_is)
    (case hc_first_inner => k_is)
    (case hk_first_inner => k_is)
    (case ha_is_ring => k_is)
    (case hl_is_ring => k_is)
    (case hc_is_ring => k_is)
    (case hk_is_ring => k_is)
    (case ha_all_rings => k_is)
    (case hl_all_rings => k_is)
    (case hc_all_rings => k_is)
    (case hk_all_rings => k_is)
    (case ha_rings => k_is)
    (case hl_rings => k_is)
    (case hc_rings => k_is)
    (case hk_rings => k_is)
    (case ha_check_cells => k_is)
    (case hl_check_cells => k_is)
    (case hc_check_cells => k_is)
    (case hk_check_cells => k_is)
    (case ha_sides_of => k_is)
    (case hl_sides_of => k_is)
    (case hc_sides_of => k_is)
    (case hk_sides_of => k_is)
    (case ha_numbers_of => k_is)
    (case hl_numbers_of => k_is)
    (case hc_numbers_of => k_is)
    (case hk_numbers_of => k_is)
    (case ha_numbers => k_is)
    (case hl_numbers => k_is)
    (case hc_numbers => k_is)
    (case hk_numbers => k_is)
    (case h_n_Split => k_is)
    (case ha_Split_init => k_is)
    (case hl_Split_init => k_is)
    (case hc_Split_init => k_is)
    (case hk_Split_init => k_is)
    (case h_n_Hole => k_is)
    (case ha_Hole_init => k_is)
    (case hl_Hole_init => k_is)
    (case hc_Hole_init => k_is)
    (case hk_Hole_init => k_is)
    (case ha_judged => k_is)
    (case hl_judged => k_is)
    (case hc_judged => k_is)
    (case hk_judged => k_is)
    (case ha_side_ahead => k_is)
    (case hl_side_ahead => k_is)
    (case hc_side_ahead => k_is)
    (case hk_side_ahead => k_is)
    (case ha_walk => k_is)
    (case hl_walk => k_is)
    (case hc_walk => k_is)
    (case hk_walk => k_is)
    (case ha_l_with_grid => k_is)
    (case hl_l_with_grid => k_is)
    (case hc_l_with_grid => k_is)
    (case hk_l_with_grid => k_is)
    (case ha_l_no_grids => k_is)
    (case hl_l_no_grids => k_is)
    (case hc_l_no_grids => k_is)
    (case hk_l_no_grids => k_is)
    (case ha_l_with_great => k_is)
    (case hl_l_with_great => k_is)
    (case hc_l_with_great => k_is)
    (case hk_l_with_great => k_is)
    (case ha_l_great => k_is)
    (case hl_l_great => k_is)
    (case hc_l_great => k_is)
    (case hk_l_great => k_is)
    (case ha_l_with_cells => k_is)
    (case hl_l_with_cells => k_is)
    (case hc_l_with_cells => k_is)
    (case hk_l_with_cells => k_is)
    (case ha_l_no_cells => k_is)
    (case hl_l_no_cells => k_is)
    (case hc_l_no_cells => k_is)
    (case hk_l_no_cells => k_is)
    (case ha_check_clues => k_is)
    (case hl_check_clues => k_is)
    (case hc_check_clues => k_is)
    (case hk_check_clues => k_is)
    (case ha_fits => k_is)
    (case hl_fits => k_is)
    (case hc_fits => k_is)
    (case hk_fits => k_is)
    (case ha_fitting_of => k_is)
    (case hl_fitting_of => k_is)
    (case hc_fitting_of => k_is)
    (case hk_fitting_of => k_is)
    (case ha_fitting => k_is)
    (case hl_fitting => k_is)
    (case hc_fitting => k_is)
    (case hk_fitting => k_is)
    (case h_n_One => k_is)
    (case ha_One_init => k_is)
    (case hl_One_init => k_is)
    (case hc_One_init => k_is)
    (case hk_One_init => k_is)
    (case h_n_Two => k_is)
    (case ha_Two_init => k_is)
    (case hl_Two_init => k_is)
    (case hc_Two_init => k_is)
    (case hk_Two_init => k_is)
    (case ha_told => k_is)
    (case hl_told => k_is)
    (case hc_told => k_is)
    (case hk_told => k_is)
    (case ha_l_with_clues => k_is)
    (case hl_l_with_clues => k_is)
    (case hc_l_with_clues => k_is)
    (case hk_l_with_clues => k_is)
    (case ha_l_no_clues => k_is)
    (case hl_l_no_clues => k_is)
    (case hc_l_no_clues => k_is)
    (case hk_l_no_clues => k_is)
    (case ha_l_alone => k_is)
    (case hl_l_alone => k_is)
    (case hc_l_alone => k_is)
    (case hk_l_alone => k_is)
    (case ha_l_refused => k_is)
    (case hl_l_refused => k_is)
    (case hc_l_refused => k_is)
    (case hk_l_refused => k_is)
    (case ha_law => k_is)
    (case hl_law => k_is)
    (case hc_law => k_is)
    (case hk_law => k_is)
    (case hz_isinstance => k_is)
    (case hz_int => k_is)
    (case hz_bool => k_is)
    (case hz_tuple => k_is)
    (case hz_len => k_is)
    (case hz_all => k_is)
    (case hg_MOST => k_is)
    (case h_n_BadGrid => k_is)
    (case h_x_BadGrid => k_exc)
    (case h_k_BadGrid => k_is)
    (case h_e_BadGrid => k_is)
    (case h_y_BadGrid => k_is)
    (case hg_FEW => k_is)
    (case hz_range => k_is)
    (case hz_sorted => k_is)
    (case hz_list => k_is)
    (case h_n_BadCells => k_is)
    (case h_x_BadCells => k_exc)
    (case h_k_BadCells => k_is)
    (case h_e_BadCells => k_is)
    (case h_y_BadCells => k_is)
    (case hz_any => k_is)
    (case hz_zip => k_is)
    (case pg_Split => k_is)
    (case hd_Split => k_is)
    (case po_Split => k_is)
    (case sa_Split => k_is)
    (case na_Split_one => k_is)
    (case na_Split_other => k_is)
    (case pg_Hole => k_is)
    (case hd_Hole => k_is)
    (case po_Hole => k_is)
    (case sa_Hole => k_is)
    (case na_Hole_cell => k_is)
    (case mk_Split => k_is)
    (case kc_Split => k_is)
    (case if_Split_init => k_is)
    (case h_n_Ring => k_is)
    (case mk_Ring => k_is)
    (case kc_Ring => k_is)
    (case oi_Ring => k_is)
    (case mk_Hole => k_is)
    (case kc_Hole => k_is)
    (case if_Hole_init => k_is)
    (case h_n_NoRing => k_is)
    (case h_x_NoRing => k_exc)
    (case h_k_NoRing => k_is)
    (case h_e_NoRing => k_is)
    (case h_y_NoRing => k_is)
    (case h_n_BadClues => k_is)
    (case h_x_BadClues => k_exc)
    (case h_k_BadClues => k_is)
    (case h_e_BadClues => k_is)
    (case h_y_BadClues => k_is)
    (case pg_One => k_is)
    (case hd_One => k_is)
    (case po_One => k_is)
    (case sa_One => k_is)
    (case na_One_cells => k_is)
    (case pg_Two => k_is)
    (case hd_Two => k_is)
    (case po_Two => k_is)
    (case sa_Two => k_is)
    (case na_Two_one => k_is)
    (case na_Two_other => k_is)
    (case h_n_Never => k_is)
    (case mk_Never => k_is)
    (case kc_Never => k_is)
    (case oi_Never => k_is)
    (case mk_One => k_is)
    (case kc_One => k_is)
    (case if_One_init => k_is)
    (case mk_Two => k_is)
    (case kc_Two => k_is)
    (case if_Two_init => k_is)
    (case xa_BadGrid => k_is)
    (case xb_BadGrid => k_is)
    (case xc_BadGrid => k_is)
    (case xd_BadGrid => k_is)
    (case xe_BadGrid => k_is)
    (case xf_BadGrid => k_is)
    (case xg_BadGrid => k_is)
    (case xh_BadGrid => k_is)
    (case xa_BadCells => k_is)
    (case xb_BadCells => k_is)
    (case xc_BadCells => k_is)
    (case xd_BadCells => k_is)
    (case xe_BadCells => k_is)
    (case xf_BadCells => k_is)
    (case xg_BadCells => k_is)
    (case xh_BadCells => k_is)
    (case xa_BadClues => k_is)
    (case xb_BadClues => k_is)
    (case xc_BadClues => k_is)
    (case xd_BadClues => k_is)
    (case xe_BadClues => k_is)
    (case xf_BadClues => k_is)
    (case xg_BadClues => k_is)
    (case xh_BadClues => k_is)
    (case ic_BadCells => k_is)
    (case it_BadCells => k_is)
    (case is_BadCells => k_is)
    (case h_ki_BadGrid_BadCells => k_is)
    (case ic_BadClues => k_is)
    (case it_BadClues => k_is)
    (case is_BadClues => k_is)
    (case h_ki_BadGrid_BadClues => k_is)
    (case ic_NoRing => k_is)
    (case it_NoRing => k_is)
    (case is_NoRing => k_is)
    (case h_ki_BadGrid_NoRing => k_is)
    (case ic_BadGrid => k_is)
    (case it_BadGrid => k_is)
    (case is_BadGrid => k_is)
    (case h_ki_BadCells_BadGrid => k_is)
    (case h_ki_BadCells_BadClues => k_is)
    (case h_ki_BadCells_NoRing => k_is)
    (case h_ki_BadClues_BadGrid => k_is)
    (case h_ki_BadClues_BadCells => k_is)
    (case h_ki_BadClues_NoRing => k_is)
    (case h_kv_BadGrid => k_is)
    (case h_kv_BadCells => k_is)
    (case h_kv_BadClues => k_is)
    (case hz_ValueError => k_is)
    (case h_n_RingError => k_is)
    (case ma => k_is)
    (case mb => k_is)
    (case mc => k_is)
    (case md_BadGrid => k_is)
    (case md_BadCells => k_is)
    (case md_BadClues => k_is)
