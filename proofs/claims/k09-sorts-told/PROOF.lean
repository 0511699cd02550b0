import PyProof.Rows.All
import Wide.All
import OpenK.AllK
import Wide.FinOn
import HandS.ForMost
import HandS.ForExc
import HandS.Evl
import HandS.Steps
import HandS.IsInst
import HandS.Deep
import HandS.Style
import HandS.WideBits
import HandS.EndBits
import HandS.SortInts
import HandS.Zip
import KE.SortData
import PySem.Challenge.RW_sidering_k09_sorts_told
set_option Elab.async false
set_option linter.all false
set_option maxRecDepth 100000
set_option maxHeartbeats 4000000

/-! Rules of our own over the hand layer: C() of a class without an own __init__, one of several readings. -/
namespace Sd
open PySem L2 Evl
def tAlt (t u : TE) : TE := fun σ H Q => t σ H Q ∨ u σ H Q
/-- C(), no __init__ but object's -/
def tBare (C : Addr) : TE := fun σ H Q => ∀ x dx, H x = none → H dx = none → dx ≠ x → Q (.ref x) (upd (upd H dx (.own x)) x (.ins C dx []))
structure Mk0 (K : PySem.W.Frag) (C : Addr) : Prop where
  makes : PySem.W.makesIn K C = true
  init : PySem.W.findIn K (.ref C) "__init__" = some (some (.builtin "object.__init__"))
  kp : PySem.W.keepIn K (.ref C) = true
section
variable {X : Cx} {C : Addr} {x : Str} {p pos : Pos} {e : Expr} {t u : TE}
theorem pe_alt (h1 : PE X e t) (h2 : PE X e u) : PE X e (tAlt t u) := ⟨fun pins s σ H Q I h => h.elim (h1.run pins s σ H Q I) (h2.run pins s σ H Q I)⟩
theorem run_bare {pins : List (Addr × Obj)} {σ : St} {H : Hp} {s : Shared} {Q : VK} (M : Mk0 X.K C) (I : Inv X pins σ H s)
    (h : ∀ x dx, H x = none → H dx = none → dx ≠ x → Q (.ref x) (upd (upd H dx (.own x)) x (.ins C dx []))) : wpAny (model X.prog X.w) X.A (call (.ref C) []) (EP X pins σ Q) X.xe s := by
  have hq := h (s.heap.objs.size + 1) s.heap.objs.size (I.hok.fresh (Nat.le_succ _)) (I.hok.fresh (Nat.le_refl _)) (Nat.ne_of_lt (Nat.lt_succ_self _))
  have I2 := Inv.made (C := C) I
  have Y := PySem.W.makes_of (M := model X.prog X.w) I.kIn M.makes
  refine wpAny_call (make_map0 I.kIn M.makes M.init (fun self => PySem.W.Looks.of_pure (PySem.W.oi_bind self)) ?_)
  have hx : ((s.heap.push PySem.W.emptyDict).push (PySem.W.instObj C s.heap.objs.size)).get? (s.heap.objs.size + 1) = some (PySem.W.instObj C s.heap.objs.size) := by
    have := Heap.get?_push_size (s.heap.push PySem.W.emptyDict) (o := PySem.W.instObj C s.heap.objs.size) rfl
    rwa [Heap.size_push] at this
  have t1 : PySem.W.Looks (model X.prog X.w) ((s.heap.push PySem.W.emptyDict).push (PySem.W.instObj C s.heap.objs.size)) (typeOf (.ref (s.heap.objs.size + 1))) (.ref C) := (PySem.W.Looks.ld hx).andThen .now
  have t2 : PySem.W.Looks (model X.prog X.w) ((s.heap.push PySem.W.emptyDict).push (PySem.W.instObj C s.heap.objs.size)) (isInstance (.ref (s.heap.objs.size + 1)) (.type "object")) true := t1.andThen (Y.top.keeps fun b o e => Heap.get?_push_of_some _ (Heap.get?_push_of_some _ e))
  refine codeAny_call_builtin PySem.W.oi_plain PySem.W.entry_oi (@PySem.W.check_slot (model X.prog X.w) _ _ _ "object.__init__" "object" "__init__" (.ref (s.heap.objs.size + 1)) [] [] _ PySem.W.oi_kind PySem.W.oi_split t2 (PySem.W.oi_args (.ref (s.heap.objs.size + 1))) ?_)
  rw [PySem.W.oi_run]
  exact wpAny_pure (And.intro rfl ⟨V.ref (s.heap.objs.size + 1), _, I2, rfl, hq⟩)
theorem pe_bare (M : Mk0 X.K C) (hg : Gl X x) (hm : X.mg x = some (.ref C)) (hdb : (x == ("__debug__" : Str)) = false := by decide) : PE X (.Call (.Name x p) [] [] pos) (tBare C) := by
  refine ⟨fun pins s σ H Q I h => ?_⟩
  refine wpAny_Call_Name_kw (ld_glob I hg hm ?_ hdb)
  exact PySem.W.callWith_K0 I.kIn M.kp (run_bare M I h)
end
/-! ### sorted of data -/
/-- sorted(xs), each item some data: the same items, merge sorted by their data -/
def rSortV {γ : Type} (enc : γ → PyData) (K : PySem.W.Frag) : List V → Hp → VK → Prop := fun vs H Q => ∃ a, ∃ bs : List (V × γ), vs = [.ref a] ∧ SqL K H a (bs.map (·.1)) ∧ (∀ b ∈ bs, Dp K H b.1 (enc b.2)) ∧
  PySem.W.AllAlike (bs.map fun b => enc b.2) ∧ PySem.W.Sortable (bs.map fun b => enc b.2) ∧ (∀ b ∈ bs, (enc b.2).depth ≤ 40) ∧ ∀ p, H p = none → Q (.ref p) (upd H p (.lst ((bs.mergeSort (PySem.W.dataLe false fun b => enc b.2)).map (·.1))))
theorem each_of {γ : Type} {enc : γ → PyData} {X : Cx} {pins : List (Addr × Obj)} {σ : St} {H : Hp} {s : Shared} (I : Inv X pins σ H s) : ∀ {bs : List (V × γ)} {its : List Value}, Vals (bs.map (·.1)) its → (∀ b ∈ bs, Dp X.K H b.1 (enc b.2)) →
    PySem.W.EachIs (fun u b => RelV b.1 u) its bs ∧ PySem.W.EachIs (fun u b => ∃ as, Reads s.heap u (enc b.2) as) its bs
  | [], _, .nil, _ => ⟨.nil, .nil⟩
  | b :: bs, u :: us, .cons h hs, hd => by
    have ih := each_of I hs fun c hc => hd c (List.mem_cons_of_mem _ hc)
    exact ⟨.cons h ih.1, .cons (Dp.reads I _ _ _ (hd b List.mem_cons_self) h) ih.2⟩
theorem vals_of_each {γ : Type} : ∀ {bs : List (V × γ)} {its : List Value}, PySem.W.EachIs (fun u b => RelV b.1 u) its bs → Vals (bs.map (·.1)) its
  | [], _, .nil => .nil
  | _ :: _, _, .cons h t => .cons h (vals_of_each t)
theorem cr_sortV {γ : Type} {enc : γ → PyData} {X : Cx} (hu : X.A.units + 64 < cLine) : CallR X (.builtin "sorted") (rSortV enc X.K) := by
  intro pins s σ H vs us Q I r h
  obtain ⟨a, bs, rfl, hs, hd, hal, hk, hdep, q⟩ := h
  obtain ⟨its, rv, hl, hz⟩ := I.list hs
  rw [Vals.ref1 r]
  obtain ⟨e, er⟩ := each_of I rv hd
  have hlen : bs.length ≤ sizeLine := by rw [List.length_map] at hz; exact hz
  refine PySem.W.sorted_data hl.isList e er hal hk hlen (fun b hb => by have := hdep b hb; omega) fun out ho eo => ?_
  obtain ⟨ep, he'⟩ := PyProof.Rows.sortedAll_at s.heap its out.toArray
  have rv' := vals_of_each eo
  have hl2 : ((bs.mergeSort (PySem.W.dataLe false fun b => enc b.2)).map (·.1)).length ≤ sizeLine := by
    rw [List.length_map, List.length_mergeSort]
    exact hlen
  exact ⟨.ref _, upd H (s.heap.objs.size + 1) (.lst ((bs.mergeSort (PySem.W.dataLe false fun b => enc b.2)).map (·.1))), I.laid (t' := s.toks) (fun _ _ => PyProof.Rows.sortedAll_old) (Nat.le_succ _) ⟨hl2, out, ep, rv', he'⟩, rfl, q _ (I.hok.fresh (Nat.le_succ _))⟩
/-! ### isinstance of an own class -/
theorem kit_sub {K : PySem.W.Frag} {x y : Addr} (hc : PySem.W.isClsIn K y = true) (ht : PySem.W.typeIn K (.ref y) = some (.type "type")) (hs : PySem.W.subIn K (.ref x) (.ref y) = some true) : PySem.W.kitOne K (.ref x) (.ref y) = some true := by
  unfold PySem.W.kitOne
  split
  · rfl
  · unfold PySem.W.kitCls
    dsimp only
    have : ((PySem.W.clsIn K y).isSome && PySem.W.typeIn K (.ref y) == some (.type "type")) = true := by
      rw [ht]
      simp only [beq_self_eq_true, Bool.and_true]
      exact hc
    rw [if_pos this]
    exact hs
theorem kit_not {K : PySem.W.Frag} {x y : Addr} (hc : PySem.W.isClsIn K y = true) (ht : PySem.W.typeIn K (.ref y) = some (.type "type")) (hs : PySem.W.subIn K (.ref x) (.ref y) = some false) (hy : PySem.W.subIn K (.ref y) (.ref y) = some true) : PySem.W.kitOne K (.ref x) (.ref y) = some false := by
  have ne : ¬ ((Value.ref x == Value.ref y) = true) := fun e => by
    have : Value.ref x = Value.ref y := beq_iff_eq.mp e
    rw [this, hy] at hs
    cases hs
  unfold PySem.W.kitOne
  rw [if_neg ne]
  unfold PySem.W.kitCls
  dsimp only
  have : ((PySem.W.clsIn K y).isSome && PySem.W.typeIn K (.ref y) == some (.type "type")) = true := by
    rw [ht]
    simp only [beq_self_eq_true, Bool.and_true]
    exact hc
  rw [if_pos this]
  exact hs
theorem kit_self {K : PySem.W.Frag} {x : Addr} : PySem.W.kitOne K (.ref x) (.ref x) = some true := by
  unfold PySem.W.kitOne
  rw [if_pos (beq_iff_eq.mpr rfl)]
end Sd

/-! The words used for all laws: operations by name, what evaluates to what (over Evl), data, comprehensions. -/
namespace Sd
open PySem L2 Evl

abbrev oAdd : R2 := rI0 fun i j => .int (i + j)
abbrev oSub : R2 := rI0 fun i j => .int (i - j)
abbrev oMul : R2 := rI CMul fun i j => .int (i * j)
abbrev oMulX : R2 := rI CMulX fun i j => .int (i * j)
abbrev oDiv : R2 := rI CDiv fun i j => .int (i / j)
abbrev oMod : R2 := rI (fun _ j => 0 < j) fun i j => .int (i % j)
abbrev oPow : R2 := rI CPow fun i j => .int (i ^ j.toNat)
abbrev oShl : R2 := rI CPow fun i j => .int (i * 2 ^ j.toNat)
abbrev oShr : R2 := rI (fun _ j => 0 ≤ j) fun i j => .int (i / 2 ^ j.toNat)
abbrev oAnd : R2 := rI0 fun i j => .int (Builtin.bitAnd i j)
abbrev oLt : R2 := rI0 fun i j => .bl (decide (i < j))
abbrev oLe : R2 := rI0 fun i j => .bl (decide (i ≤ j))
abbrev oGt : R2 := rI0 fun i j => .bl (decide (j < i))
abbrev oGe : R2 := rI0 fun i j => .bl (decide (j ≤ i))
abbrev oNeg : V → Hp → VK → Prop := rU fun i => .int (-i)
abbrev rAbs : List V → Hp → VK → Prop := fun xs H Q => ∃ i, xs = [.int i] ∧ Q (.int (if i < 0 then -i else i)) H
theorem hu65 {A : Around} {k : Nat} (hr : Room k A) : A.units + 65 < cLine := by
  have := hr.un
  omega

theorem start_eq {N : List Str} {vs : List V} {n : Nat} (h : N.length = n) : L2.start N vs = vs.map some ++ List.replicate (n - vs.length) none := by
  subst h
  rfl
/-! ### sources: a list, a tuple, data -/
def EvS (K : PySem.W.Frag) (te : TE) (σ : L2.St) (H : Hp) (xs : List V) : Prop := ∀ H1, Ex H H1 → ∀ Q : VK, (∀ p H2, Ex H1 H2 → SqL K H2 p xs → Q (.ref p) H2) → te σ H1 Q
def EvST (K : PySem.W.Frag) (te : TE) (σ : L2.St) (H : Hp) (xs : List V) : Prop := ∀ H1, Ex H H1 → ∀ Q : VK, (∀ p H2, Ex H1 H2 → SqT K H2 p xs → Q (.ref p) H2) → te σ H1 Q
def EvD (K : PySem.W.Frag) (te : TE) (σ : L2.St) (H : Hp) (d : PyData) : Prop := ∀ H1, Ex H H1 → ∀ Q : VK, (∀ v H2, Ex H1 H2 → Dp K H2 v d → Q v H2) → te σ H1 Q
/-- any result: R of the heap ahead, the value, the heap behind -/
def EvP (te : TE) (σ : L2.St) (H : Hp) (R : Hp → V → Hp → Prop) : Prop := ∀ H1, Ex H H1 → ∀ Q : VK, (∀ v H2, Ex H1 H2 → R H1 v H2 → Q v H2) → te σ H1 Q

mutual
theorem Dp.mono {K : PySem.W.Frag} {H H' : Hp} (e : Ex H H') : ∀ {v : V} {d : PyData}, Dp K H v d → Dp K H' v d
  | _, _, .non => .non
  | _, _, .bl b => .bl b
  | _, _, .int i => .int i
  | _, _, .str x => .str x
  | _, _, .lst h hs => .lst (ex_l e h) (DpAll.mono e hs)
  | _, _, .tup h hs => .tup (ex_t e h) (DpAll.mono e hs)
theorem DpAll.mono {K : PySem.W.Frag} {H H' : Hp} (e : Ex H H') : ∀ {vs : List V} {ds : List PyData}, DpAll K H vs ds → DpAll K H' vs ds
  | _, _, .nil => .nil
  | _, _, .cons h hs => .cons (Dp.mono e h) (DpAll.mono e hs)
end
def dI (ns : List Int) : PyData := .list (ns.map PyData.int)
theorem dpAll_ints {K : PySem.W.Frag} {H : Hp} : ∀ ns : List Int, DpAll K H (ns.map V.int) (ns.map PyData.int)
  | [] => .nil
  | n :: r => .cons (.int n) (dpAll_ints r)
theorem dp_ints {K : PySem.W.Frag} {H : Hp} {a : Addr} {ns : List Int} (h : SqL K H a (ns.map V.int)) : Dp K H (.ref a) (dI ns) := .lst h (dpAll_ints ns)

section
variable {K : PySem.W.Frag} {σ : L2.St} {H H' : Hp} {ta tb tc te tl : TE} {t u : TT} {x y z v : V} {r r' : R2} {xs ys : List V} {d d' : PyData} {a : Addr}
theorem EvS.mono (e : Ex H H') (h : EvS K te σ H xs) : EvS K te σ H' xs := fun H1 e1 Q q => h H1 (e.trans e1) Q q
theorem EvD.mono (e : Ex H H') (h : EvD K te σ H d) : EvD K te σ H' d := fun H1 e1 Q q => h H1 (e.trans e1) Q q
theorem EvP.mono {R : Hp → V → Hp → Prop} (e : Ex H H') (h : EvP te σ H R) : EvP te σ H' R := fun H1 e1 Q q => h H1 (e.trans e1) Q q
theorem es_of (h : Ev te σ H (.ref a)) (hs : SqL K H a xs) : EvS K te σ H xs := fun H1 e Q q => h H1 e Q fun H2 e2 => q a H2 e2 (ex_l (e.trans e2) hs)
theorem es_new (h : EvL te σ H xs) : EvS K te σ H xs := fun H1 e Q q => h H1 e Q fun p H2 _ e2 hp => q p H2 e2 (sq_of hp)
theorem est_of (h : Ev te σ H (.ref a)) (hs : SqT K H a xs) : EvST K te σ H xs := fun H1 e Q q => h H1 e Q fun H2 e2 => q a H2 e2 (ex_t (e.trans e2) hs)
theorem est_new (h : EvU te σ H xs) : EvST K te σ H xs := fun H1 e Q q => h H1 e Q fun p H2 _ e2 hp => q p H2 e2 (st_of hp)
theorem ed_of (h : Ev te σ H v) (hd : Dp K H v d) : EvD K te σ H d := fun H1 e Q q => h H1 e Q fun H2 e2 => q v H2 e2 (Dp.mono (e.trans e2) hd)
theorem ed_ints {ns : List Int} (h : EvS K te σ H (ns.map V.int)) : EvD K te σ H (dI ns) := fun H1 e Q q => h H1 e Q fun p H2 e2 hp => q _ H2 e2 (dp_ints hp)
theorem ed_p {R : Hp → V → Hp → Prop} (h : EvP te σ H R) (hd : ∀ H1 v H2, R H1 v H2 → Dp K H2 v d) : EvD K te σ H d := fun H1 e Q q => h H1 e Q fun v H2 e2 hr => q v H2 e2 (hd _ _ _ hr)
theorem ep_v (h : Ev te σ H v) : EvP te σ H (fun _ w _ => w = v) := fun H1 e Q q => h H1 e Q fun H2 e2 => q v H2 e2 rfl
theorem ep_imp {R R' : Hp → V → Hp → Prop} (h : EvP te σ H R) (hr : ∀ H1 v H2, Ex H H1 → R H1 v H2 → R' H1 v H2) : EvP te σ H R' := fun H1 e Q q => h H1 e Q fun v H2 e2 z => q v H2 e2 (hr _ _ _ e z)
/-! ### operations -/
theorem ev_eqD (ha : EvD K ta σ H d) (hb : EvD K tb σ H d') (h1 : SeqAt.shaped d = true) (h2 : SeqAt.shaped d' = true) : Ev (tOp (rEqD K) ta tb) σ H (.bl (PyData.eqv d d')) := fun H1 e Q q =>
  ha H1 e _ fun v H2 e2 h => hb H2 (e.trans e2) _ fun w H3 e3 h' => ⟨d, d', Dp.mono e3 h, h', h1, h2, q H3 (e2.trans e3)⟩
theorem ev_neD (ha : EvD K ta σ H d) (hb : EvD K tb σ H d') (h1 : SeqAt.shaped d = true) (h2 : SeqAt.shaped d' = true) : Ev (tOp (rNeD K) ta tb) σ H (.bl (!PyData.eqv d d')) := fun H1 e Q q =>
  ha H1 e _ fun v H2 e2 h => hb H2 (e.trans e2) _ fun w H3 e3 h' => ⟨d, d', Dp.mono e3 h, h', h1, h2, q H3 (e2.trans e3)⟩
theorem ev_inD {ds : List PyData} (ha : EvD K ta σ H d) (hb : EvD K tb σ H (.list ds)) (h1 : SeqAt.shaped d = true) (h2 : SeqAt.shaped (.list ds) = true) : Ev (tOp (rInD K) ta tb) σ H (.bl (ds.any fun z => PyData.eqv z d)) := fun H1 e Q q =>
  ha H1 e _ fun v H2 e2 h => hb H2 (e.trans e2) _ fun w H3 e3 h' => ⟨d, ds, Dp.mono e3 h, h', h1, h2, q H3 (e2.trans e3)⟩
theorem ev_notInD {ds : List PyData} (ha : EvD K ta σ H d) (hb : EvD K tb σ H (.list ds)) (h1 : SeqAt.shaped d = true) (h2 : SeqAt.shaped (.list ds) = true) : Ev (tOp (rNotInD K) ta tb) σ H (.bl (!ds.any fun z => PyData.eqv z d)) := fun H1 e Q q =>
  ha H1 e _ fun v H2 e2 h => hb H2 (e.trans e2) _ fun w H3 e3 h' => ⟨d, ds, Dp.mono e3 h, h', h1, h2, q H3 (e2.trans e3)⟩
theorem ev_chain {b b' : Bool} (ha : Ev ta σ H x) (hb : Ev tb σ H y) (hr : RV r x y H (.bl b)) (hc : b = true → Ev tc σ H z) (hr' : b = true → RV r' y z H (.bl b')) : Ev (tChain r r' ta tb tc) σ H (.bl (b && b')) := fun H1 e Q q =>
  ha H1 e _ fun H2 e2 => hb H2 (e.trans e2) _ fun H3 e3 => hr H3 ((e.trans e2).trans e3) _ fun H4 e4 => ⟨b, rfl, by
    cases b with
    | true =>
      show tc σ H4 _
      refine hc rfl H4 (((e.trans e2).trans e3).trans e4) _ fun H5 e5 => ?_
      exact hr' rfl H5 ((((e.trans e2).trans e3).trans e4).trans e5) Q fun H6 e6 => q H6 ((((e2.trans e3).trans e4).trans e5).trans e6)
    | false =>
      show Q (.bl false) H4
      exact q H4 ((e2.trans e3).trans e4)⟩
theorem ev_lenS {xs : List V} (ha : EvS K ta σ H xs) : Ev (tCB (rLenS K) (tCons ta tNil)) σ H (.int (xs.length : Int)) := fun H1 e Q q =>
  ha H1 e _ fun p H2 e2 h2 => ⟨p, xs, rfl, Or.inl h2, q H2 e2⟩
theorem ev_lenT {xs : List V} (ha : EvST K ta σ H xs) : Ev (tCB (rLenS K) (tCons ta tNil)) σ H (.int (xs.length : Int)) := fun H1 e Q q =>
  ha H1 e _ fun p H2 e2 h2 => ⟨p, xs, rfl, Or.inr h2, q H2 e2⟩
theorem el_listS {xs : List V} (ha : EvS K ta σ H xs) : EvL (tCB (rListS K) (tCons ta tNil)) σ H xs := fun H1 e Q q =>
  ha H1 e _ fun p H2 e2 h2 => ⟨p, xs, rfl, Or.inl h2, fun l hl => q l _ (fresh_back e2 hl) (e2.trans (Ex.new hl)) upd_same⟩
theorem ev_sumS {ns : List Int} (ha : EvS K ta σ H (ns.map V.int)) : Ev (tCB (rSum K) (tCons ta tNil)) σ H (.int ns.sum) := fun H1 e Q q =>
  ha H1 e _ fun p H2 e2 h2 => ⟨p, ns, rfl, h2, q H2 e2⟩
theorem ev_allS {bs : List Bool} (ha : EvS K ta σ H (bs.map V.bl)) : Ev (tCB (rAll K) (tCons ta tNil)) σ H (.bl (bs.all id)) := fun H1 e Q q =>
  ha H1 e _ fun p H2 e2 h2 => ⟨p, bs, rfl, h2, q H2 e2⟩
theorem ev_anyS {bs : List Bool} (ha : EvS K ta σ H (bs.map V.bl)) : Ev (tCB (rAny K) (tCons ta tNil)) σ H (.bl (bs.any id)) := fun H1 e Q q =>
  ha H1 e _ fun p H2 e2 h2 => ⟨p, bs, rfl, h2, q H2 e2⟩
theorem ev_abs {i : Int} (ha : Ev ta σ H (.int i)) : Ev (tCB rAbs (tCons ta tNil)) σ H (.int (if i < 0 then -i else i)) := fun H1 e Q q =>
  ha H1 e _ fun H2 e2 => ⟨i, rfl, q H2 e2⟩
theorem el_slS {tl' th : TO} {lo hi : Option Int} (h : EvS K te σ H xs) (h1 : EvO tl' σ H lo) (h2 : EvO th σ H hi) : EvL (tSl (rSlL K) te tl' th) σ H (cutV xs lo hi) := fun H1 e _ q =>
  h H1 e _ fun a H2 e2 hs => h1 H2 (e.trans e2) _ fun H3 e3 => h2 H3 ((e.trans e2).trans e3) _ fun H4 e4 =>
    ⟨a, xs, rfl, ex_l (e3.trans e4) hs, fun p hp => q p _ (fresh_back ((e2.trans e3).trans e4) hp) (((e2.trans e3).trans e4).trans (Ex.new hp)) upd_same⟩
theorem ev_inS {ns : List Int} {i : Int} (ha : Ev ta σ H (.int i)) (hb : EvS K tb σ H (ns.map V.int)) : Ev (tOp (rIn K false) ta tb) σ H (.bl (inV (.int i) (ns.map V.int))) := fun H1 e Q q =>
  ha H1 e _ fun H2 e2 => hb H2 (e.trans e2) _ fun p H3 e3 h3 => ⟨p, _, rfl, Or.inl h3, rfl, by rw [List.all_map]; exact List.all_eq_true.mpr fun _ _ => rfl, q H3 (e2.trans e3)⟩
theorem ev_notInS {ns : List Int} {i : Int} (ha : Ev ta σ H (.int i)) (hb : EvS K tb σ H (ns.map V.int)) : Ev (tOp (rIn K true) ta tb) σ H (.bl (!inV (.int i) (ns.map V.int))) := fun H1 e Q q =>
  ha H1 e _ fun H2 e2 => hb H2 (e.trans e2) _ fun p H3 e3 h3 => ⟨p, _, rfl, Or.inl h3, rfl, by rw [List.all_map]; exact List.all_eq_true.mpr fun _ _ => rfl, q H3 (e2.trans e3)⟩
theorem inV_ints (i : Int) (ns : List Int) : inV (.int i) (ns.map V.int) = decide (i ∈ ns) := by
  induction ns with
  | nil => simp [inV]
  | cons n r ih =>
    have e : inV (.int i) ((n :: r).map V.int) = (eqV (.int n) (.int i) || inV (.int i) (r.map V.int)) := rfl
    rw [e, ih]
    have e2 : eqV (.int n) (.int i) = decide (n = i) := by
      show ((n == i) : Bool) = decide (n = i)
      exact Bool.beq_eq_decide_eq n i
    rw [e2, Bool.eq_iff_iff]
    simp only [Bool.or_eq_true, decide_eq_true_eq, List.mem_cons]
    exact ⟨fun h => h.elim (fun h => .inl h.symm) .inr, fun h => h.elim (fun h => .inl h.symm) .inr⟩
theorem ev_isIn {ns : List Int} {i : Int} (ha : Ev ta σ H (.int i)) (hb : EvS K tb σ H (ns.map V.int)) : Ev (tOp (rIn K false) ta tb) σ H (.bl (decide (i ∈ ns))) := ev_is (ev_inS ha hb) (by rw [inV_ints])
theorem ev_notIn {ns : List Int} {i : Int} (ha : Ev ta σ H (.int i)) (hb : EvS K tb σ H (ns.map V.int)) : Ev (tOp (rIn K true) ta tb) σ H (.bl (!decide (i ∈ ns))) := ev_is (ev_notInS ha hb) (by rw [inV_ints])
/-- in a written pair of ints -/
theorem ev_inT2 {i j k : Int} (ha : Ev ta σ H (.int i)) (hb : EvST K tb σ H [.int j, .int k]) : Ev (tOp (rIn K false) ta tb) σ H (.bl (decide (i = j ∨ i = k))) := fun H1 e Q q =>
  ha H1 e _ fun H2 e2 => hb H2 (e.trans e2) _ fun p H3 e3 h3 => ⟨p, _, rfl, Or.inr h3, rfl, rfl, by
    have w := inV_ints i [j, k]
    have w2 : inV (.int i) [V.int j, V.int k] = decide (i = j ∨ i = k) := by
      rw [show [V.int j, V.int k] = [j, k].map V.int from rfl, w]
      simp
    show Q (.bl (inV (.int i) [V.int j, V.int k])) H3
    rw [w2]
    exact q H3 (e2.trans e3)⟩
theorem ev_ixS {i : Int} (ha : EvS K ta σ H xs) (hb : Ev tb σ H (.int i)) (hx : atI xs i = some v) : Ev (tOp (rIxL K) ta tb) σ H v := fun H1 e Q q =>
  ha H1 e _ fun p H2 e2 h2 => hb H2 (e.trans e2) _ fun H3 e3 => ⟨p, xs, i, v, rfl, rfl, ex_l e3 h2, hx, q H3 (e2.trans e3)⟩
theorem ev_ixT {i : Int} (ha : EvST K ta σ H xs) (hb : Ev tb σ H (.int i)) (hx : atI xs i = some v) : Ev (tOp (rIxT K) ta tb) σ H v := fun H1 e Q q =>
  ha H1 e _ fun p H2 e2 h2 => hb H2 (e.trans e2) _ fun H3 e3 => ⟨p, xs, i, v, rfl, rfl, ex_t e3 h2, hx, q H3 (e2.trans e3)⟩
/-- isinstance -/
theorem ev_isi {c : V} {ty cv : Value} {b : Bool} (ha : Ev ta σ H x) (hc : Ev tc σ H c) (hv : ClsV c cv) (ht : ∀ H1, Ex H H1 → TyX K H1 x ty) (hk : PySem.W.kitOne K ty cv = some b) : Ev (tCB (rIsi K) (tCons ta (tCons tc tNil))) σ H (.bl b) := fun H1 e Q q =>
  ha H1 e _ fun H2 e2 => hc H2 (e.trans e2) _ fun H3 e3 => ⟨x, c, ty, cv, b, rfl, hv, ht H3 ((e.trans e2).trans e3), hk, q H3 (e2.trans e3)⟩
theorem filter_yes {α : Type} (l : List α) : (l.filter fun _ => true) = l := List.filter_eq_self.mpr fun _ _ => rfl
/-! ### comprehensions -/
/-- what holds while a new list at Dl grows: all that H1 knew stands -/
def Grow (H1 : Hp) (Dl : Addr) (ys : List V) (H' : Hp) : Prop := H1 Dl = none ∧ Ex H1 H' ∧ H' Dl = some (.lst ys)
theorem grow_turn {H1 H' : Hp} {Dl : Addr} {ys : List V} {b0 : Bool} {w : V} {σ2 : L2.St} (p : Grow H1 Dl ys H') (hz : ys.length < 100000) (ht : EvT t σ2 H1 b0) (he : b0 = true → Ev te σ2 H1 w) :
    t σ2 H' fun b H3 => if b = true then te σ2 H3 fun y H4 => ∃ acc, H4 Dl = some (.lst acc) ∧ acc.length < sizeLine ∧ Grow H1 Dl (ys ++ if b0 = true then [w] else []) (upd H4 Dl (.lst (acc ++ [y]))) else Grow H1 Dl (ys ++ if b0 = true then [w] else []) H3 := by
  obtain ⟨p1, p2, p3⟩ := p
  refine ht H' p2 _ fun H3 e3 => ?_
  cases b0 with
  | true =>
    show te σ2 H3 _
    refine he rfl H3 (p2.trans e3) _ fun H4 e4 => ⟨ys, e4 Dl _ (e3 Dl _ p3), sz_lt hz, p1, Ex.mut ((p2.trans e3).trans e4) p1, ?_⟩
    exact upd_same
  | false =>
    show Grow H1 Dl (ys ++ []) H3
    rw [List.append_nil]
    exact ⟨p1, p2.trans e3, e3 Dl _ p3⟩
theorem take_snoc {α : Type} {l : List α} {i : Nat} {x : α} (h : l[i]? = some x) : l.take (i + 1) = l.take i ++ [x] := by
  rw [List.take_add_one, h]
  rfl
/-- [e for x in xs if t], xs a list -/
theorem el_lc {j : Nat} {vs : List Nat} (f : V → Bool) (g : V → V) (h : EvS K tl σ H xs) (hz : xs.length ≤ 40000) (hw : ∀ x, wipe ((wipe σ vs).set j (some x)) vs = wipe σ vs)
    (ht : ∀ (x : V) H1, Ex H H1 → x ∈ xs → EvT t ((wipe σ vs).set j (some x)) H1 (f x)) (he : ∀ (x : V) H1, Ex H H1 → x ∈ xs → f x = true → Ev te ((wipe σ vs).set j (some x)) H1 (g x)) :
    EvL (tLc (iList K tl) (gName j) t te vs) σ H ((xs.filter f).map g) := fun H0 e Q q => h H0 e _ fun a H1 e1 hx => ⟨a, rfl, ⟨xs, hx⟩, fun Dl hD =>
  lc_list (xs := xs) (fun i => Grow H1 Dl (((xs.take i).filter f).map g)) ⟨hD, Ex.new hD, upd_same⟩ (fun i H' _ p => ex_l p.2.1 hx) (fun i x H' hi p => ⟨hw x, by
      have hm : x ∈ xs := List.mem_of_getElem? hi
      have hlen : (((xs.take i).filter f).map g).length < 100000 := by
        rw [List.length_map]
        have h1 := List.length_filter_le f (xs.take i)
        have h2 : (xs.take i).length ≤ xs.length := by rw [List.length_take]; omega
        omega
      have w := grow_turn p hlen (ht x H1 (e.trans e1) hm) (he x H1 (e.trans e1) hm)
      have e2 : (((xs.take (i + 1)).filter f).map g) = ((xs.take i).filter f).map g ++ if f x = true then [g x] else [] := by
        rw [take_snoc hi, List.filter_append, List.map_append]
        congr 1
        cases hf : f x <;> simp [hf]
      rw [e2]
      exact w⟩)
    (fun H' p => by
      rw [List.take_length] at p
      exact q Dl H' (fresh_back e1 p.1) (e1.trans p.2.1) p.2.2)⟩
/-- the same over ints -/
theorem el_lcI {ns : List Int} {j : Nat} {vs : List Nat} (f : Int → Bool) (g : Int → V) (h : EvS K tl σ H (ns.map V.int)) (hz : ns.length ≤ 40000) (hw : ∀ x, wipe ((wipe σ vs).set j (some x)) vs = wipe σ vs)
    (ht : ∀ (n : Int) H1, Ex H H1 → n ∈ ns → EvT t ((wipe σ vs).set j (some (.int n))) H1 (f n)) (he : ∀ (n : Int) H1, Ex H H1 → n ∈ ns → f n = true → Ev te ((wipe σ vs).set j (some (.int n))) H1 (g n)) :
    EvL (tLc (iList K tl) (gName j) t te vs) σ H ((ns.filter f).map g) := by
  have key : ((ns.map V.int).filter (fun v => match v with | .int n => f n | _ => false)).map (fun v => match v with | .int n => g n | _ => v) = (ns.filter f).map g := by
    clear h hz ht he
    induction ns with
    | nil => rfl
    | cons n r ih =>
      rw [List.map_cons, List.filter_cons, List.filter_cons]
      cases hf : f n <;> simp [ih, hf]
  rw [← key]
  refine el_lc _ _ h (by rw [List.length_map]; exact hz) hw (fun x H1 e hx => ?_) (fun x H1 e hx hf => ?_)
  · obtain ⟨n, hn, rfl⟩ := List.mem_map.mp hx
    exact ht n H1 e hn
  · obtain ⟨n, hn, rfl⟩ := List.mem_map.mp hx
    exact he n H1 e hn hf
/-- over range(n) -/
theorem el_lcR {ta : TA} {j : Nat} {vs : List Nat} {n : Nat} (f : Nat → Bool) (g : Nat → V) (h : EvA ta σ H [.int (n : Int)]) (hn : n ≤ 40000) (hw : ∀ x, wipe ((wipe σ vs).set j (some x)) vs = wipe σ vs)
    (ht : ∀ (i : Nat) H1, Ex H H1 → i < n → EvT t ((wipe σ vs).set j (some (.int (i : Int)))) H1 (f i)) (he : ∀ (i : Nat) H1, Ex H H1 → i < n → f i = true → Ev te ((wipe σ vs).set j (some (.int (i : Int)))) H1 (g i)) :
    EvL (tLc (iRng1 ta) (gName j) t te vs) σ H (((List.range n).filter f).map g) := by
  have w := el_lcR1 (t := t) (te := te) (vs := vs) (j := j) f g h ⟨by omega, by omega⟩ hw (fun i H1 e hi => ht i H1 e (by omega)) (fun i H1 e hi hf => he i H1 e (by omega) hf)
  rw [Int.toNat_natCast] at w
  exact w
theorem et_yes : EvT tYes σ H true := fun H1 _ _ q => q H1 (Ex.refl H1)
/-- over a tuple -/
theorem el_lcT {j : Nat} {vs : List Nat} (f : V → Bool) (g : V → V) (h : EvST K tl σ H xs) (hz : xs.length ≤ 40000) (hw : ∀ x, wipe ((wipe σ vs).set j (some x)) vs = wipe σ vs)
    (ht : ∀ (x : V) H1, Ex H H1 → x ∈ xs → EvT t ((wipe σ vs).set j (some x)) H1 (f x)) (he : ∀ (x : V) H1, Ex H H1 → x ∈ xs → f x = true → Ev te ((wipe σ vs).set j (some x)) H1 (g x)) :
    EvL (tLc (iTup K tl) (gName j) t te vs) σ H ((xs.filter f).map g) := fun H0 e Q q => h H0 e _ fun a H1 e1 hx => ⟨a, rfl, ⟨xs, hx⟩, fun Dl hD =>
  lc_tup (xs := xs) (fun i => Grow H1 Dl (((xs.take i).filter f).map g)) ⟨hD, Ex.new hD, upd_same⟩ (fun i H' _ p => ex_t p.2.1 hx) (fun i x H' hi p => ⟨hw x, by
      have hm : x ∈ xs := List.mem_of_getElem? hi
      have hlen : (((xs.take i).filter f).map g).length < 100000 := by
        rw [List.length_map]
        have h1 := List.length_filter_le f (xs.take i)
        have h2 : (xs.take i).length ≤ xs.length := by rw [List.length_take]; omega
        omega
      have w := grow_turn p hlen (ht x H1 (e.trans e1) hm) (he x H1 (e.trans e1) hm)
      have e2 : (((xs.take (i + 1)).filter f).map g) = ((xs.take i).filter f).map g ++ if f x = true then [g x] else [] := by
        rw [take_snoc hi, List.filter_append, List.map_append]
        congr 1
        cases hf : f x <;> simp [hf]
      rw [e2]
      exact w⟩)
    (fun H' p => by
      rw [List.take_length] at p
      exact q Dl H' (fresh_back e1 p.1) (e1.trans p.2.1) p.2.2)⟩
/-- over zip(xs, ys) -/
theorem el_lcZ {i j : Nat} {vs : List Nat} (f : V × V → Bool) (g : V × V → V) (ha : EvS K ta σ H xs) (hb : EvS K tb σ H ys) (hz : xs.length ≤ 40000) (hw : ∀ x y, wipe (((wipe σ vs).set i (some x)).set j (some y)) vs = wipe σ vs)
    (ht : ∀ (p : V × V) H1, Ex H H1 → p ∈ xs.zip ys → EvT t (((wipe σ vs).set i (some p.1)).set j (some p.2)) H1 (f p)) (he : ∀ (p : V × V) H1, Ex H H1 → p ∈ xs.zip ys → f p = true → Ev te (((wipe σ vs).set i (some p.1)).set j (some p.2)) H1 (g p)) :
    EvL (tLc (iZip K (tCons ta (tCons tb tNil))) (gTup K 2 (gCons (gName i) (gCons (gName j) gNil))) t te vs) σ H (((xs.zip ys).filter f).map g) := fun H0 e Q q => ha H0 e _ fun a H1 e1 hx => hb H1 (e.trans e1) _ fun b H2 e2 hy => ⟨a, b, xs, ys, rfl, ex_l e2 hx, hy, fun Dl hD => by
  have hx2 := ex_l e2 hx
  have hl : (xs.zip ys).length = min xs.length ys.length := List.length_zip
  refine ⟨fun n m H' => m = (xs.zip ys).length - n ∧ n ≤ (xs.zip ys).length ∧ Grow H2 Dl ((((xs.zip ys).take n).filter f).map g) H', ⟨(xs.zip ys).length, by simp, Nat.zero_le _, hD, Ex.new hD, upd_same⟩, ?_⟩
  rintro n m H' ⟨rfl, hn, p⟩
  by_cases hlt : n < (xs.zip ys).length
  · have h1 : n < xs.length := by omega
    have h2 : n < ys.length := by omega
    have g1 : xs[n]? = some xs[n] := List.getElem?_eq_getElem h1
    have g2 : ys[n]? = some ys[n] := List.getElem?_eq_getElem h2
    have g3 : (xs.zip ys)[n]? = some (xs[n], ys[n]) := by
      rw [List.getElem?_zip_eq_some]
      exact ⟨g1, g2⟩
    refine .inr ⟨⟨xs, ys, _, _, ex_l p.2.1 hx2, ex_l p.2.1 hy, g1, g2⟩, fun H'' => Grow H2 Dl ((((xs.zip ys).take (n + 1)).filter f).map g) H'', fun H'' z => ⟨_, by omega, rfl, hlt, z⟩, fun v H'' hv => ?_⟩
    obtain ⟨T, x, y, rfl, nT, rfl, f1, f2⟩ := hv
    have ex : x = xs[n] := Option.some.inj ((f1 _ (ex_l p.2.1 hx2)).symm.trans g1)
    have ey : y = ys[n] := Option.some.inj ((f2 _ (ex_l p.2.1 hy)).symm.trans g2)
    subst ex ey
    refine ⟨T, _, rfl, st_of upd_same, rfl, _, _, rfl, _, _, rfl, rfl, hw _ _, ?_⟩
    have hm : (xs[n], ys[n]) ∈ xs.zip ys := List.mem_of_getElem? g3
    have hlen : ((((xs.zip ys).take n).filter f).map g).length < 100000 := by
      rw [List.length_map]
      have h1 := List.length_filter_le f ((xs.zip ys).take n)
      have h2 : ((xs.zip ys).take n).length ≤ (xs.zip ys).length := by rw [List.length_take]; omega
      omega
    have p' : Grow H2 Dl ((((xs.zip ys).take n).filter f).map g) (upd H' T (.tup [xs[n], ys[n]])) := ⟨p.1, p.2.1.trans (Ex.new nT), by rw [upd_ne (ne_of_none p.2.2 nT)]; exact p.2.2⟩
    have w := grow_turn p' hlen (ht (xs[n], ys[n]) H2 ((e.trans e1).trans e2) hm) (he (xs[n], ys[n]) H2 ((e.trans e1).trans e2) hm)
    have e3 : ((((xs.zip ys).take (n + 1)).filter f).map g) = (((xs.zip ys).take n).filter f).map g ++ if f (xs[n], ys[n]) = true then [g (xs[n], ys[n])] else [] := by
      rw [take_snoc g3, List.filter_append, List.map_append]
      congr 1
      cases hf : f (xs[n], ys[n]) <;> simp [hf]
    rw [e3]
    exact w
  · refine .inl ⟨⟨xs, ys, ex_l p.2.1 hx2, ex_l p.2.1 hy, by omega⟩, ?_⟩
    have e3 : n = (xs.zip ys).length := by omega
    rw [e3, List.take_length] at p
    exact q Dl H' (fresh_back (e1.trans e2) p.1) ((e1.trans e2).trans p.2.1) p.2.2⟩
/-! ### statements -/
variable {D : Ends} {tu tw tz : TS}
/-- a, b = e, e a tuple of two -/
theorem q_unp {i j : Nat} (h : EvST K te σ H [x, y]) (k : ∀ H1, Ex H H1 → tz D ((σ.set i (some x)).set j (some y)) H1) : tSeq (tAsg te (gTup K 2 (gCons (gName i) (gCons (gName j) gNil)))) tz D σ H :=
  h H (Ex.refl H) _ fun p H1 e hp => ⟨p, [x, y], rfl, hp, rfl, x, [y], rfl, y, [], rfl, rfl, k H1 e⟩
theorem s_unp {i j : Nat} (h : EvST K te σ H [x, y]) (k : ∀ H1, Ex H H1 → D.nx ((σ.set i (some x)).set j (some y)) H1) : tAsg te (gTup K 2 (gCons (gName i) (gCons (gName j) gNil))) D σ H :=
  h H (Ex.refl H) _ fun p H1 e hp => ⟨p, [x, y], rfl, hp, rfl, x, [y], rfl, y, [], rfl, rfl, k H1 e⟩
/-- a, b = e1, e2 -/
theorem q_par {i j : Nat} (h : Ev ta σ H x) (h' : Ev tb σ H y) (k : ∀ H1, Ex H H1 → tz D ((σ.set i (some x)).set j (some y)) H1) : tSeq (tPar i j (tCons ta (tCons tb tNil))) tz D σ H :=
  h H (Ex.refl H) _ fun H1 e => h' H1 e _ fun H2 e2 => ⟨x, y, rfl, k H2 (e.trans e2)⟩
/-- if t: xs.append(e) -/
theorem q_ifApp {b : Bool} {l : Addr} (ht : EvT t σ H b) (hl : H l = some (.lst xs)) (ha : Ev ta σ H (.ref l)) (h : b = true → Ev te σ H v) (hz : xs.length < 100000) (k : ∀ H1, (∀ c o, c ≠ l → H c = some o → H1 c = some o) → H1 l = some (.lst (xs ++ if b = true then [v] else [])) → tz D σ H1) :
    tSeq (tIfS t (tDrop (tBM K "list" rAppend ta (tCons te tNil))) tNext) tz D σ H := q_when ht
  (fun hb H1 e1 => s_app (e1 l _ hl) (ha.mono e1) ((h hb).mono e1) hz fun H2 e2 => k _ (fun c o hc ho => by rw [upd_ne hc]; exact e2 _ _ (e1 _ _ ho)) (by rw [upd_same, if_pos hb]))
  (fun hb H1 e1 => k H1 (fun c o _ ho => e1 _ _ ho) (by rw [hb, if_neg Bool.false_ne_true, List.append_nil]; exact e1 _ _ hl))
theorem el_if {b : Bool} (h : EvT t σ H b) (h1 : b = true → EvL ta σ H xs) (h2 : b = false → EvL tb σ H xs) : EvL (tIf t ta tb) σ H xs := fun H1 e Q q => h H1 e _ fun H2 e2 => by
  cases b with
  | true =>
    show ta σ H2 Q
    exact h1 rfl H2 (e.trans e2) Q fun p H3 hp e3 h3 => q p H3 (fresh_back e2 hp) (e2.trans e3) h3
  | false =>
    show tb σ H2 Q
    exact h2 rfl H2 (e.trans e2) Q fun p H3 hp e3 h3 => q p H3 (fresh_back e2 hp) (e2.trans e3) h3
theorem eu_if {b : Bool} (h : EvT t σ H b) (h1 : b = true → EvU ta σ H xs) (h2 : b = false → EvU tb σ H xs) : EvU (tIf t ta tb) σ H xs := fun H1 e Q q => h H1 e _ fun H2 e2 => by
  cases b with
  | true =>
    show ta σ H2 Q
    exact h1 rfl H2 (e.trans e2) Q fun p H3 hp e3 h3 => q p H3 (fresh_back e2 hp) (e2.trans e3) h3
  | false =>
    show tb σ H2 Q
    exact h2 rfl H2 (e.trans e2) Q fun p H3 hp e3 h3 => q p H3 (fresh_back e2 hp) (e2.trans e3) h3
theorem q_asgP {R : Hp → V → Hp → Prop} {i : Nat} (h : EvP te σ H R) (k : ∀ v H1, Ex H H1 → R H v H1 → tz D (σ.set i (some v)) H1) : tSeq (tAsg te (gName i)) tz D σ H := h H (Ex.refl H) _ fun v H1 e z => k v H1 e z
theorem s_asgP {R : Hp → V → Hp → Prop} {i : Nat} (h : EvP te σ H R) (k : ∀ v H1, Ex H H1 → R H v H1 → D.nx (σ.set i (some v)) H1) : tAsg te (gName i) D σ H := h H (Ex.refl H) _ fun v H1 e z => k v H1 e z
/-- a, b = e1, e2, the second a new list -/
theorem q_parL {i j : Nat} (h : Ev ta σ H x) (h' : EvL tb σ H xs) (k : ∀ p H1, H p = none → Ex H H1 → H1 p = some (.lst xs) → tz D ((σ.set i (some x)).set j (some (.ref p))) H1) : tSeq (tPar i j (tCons ta (tCons tb tNil))) tz D σ H :=
  h H (Ex.refl H) _ fun H1 e => h' H1 e _ fun p H2 hp e2 h2 => ⟨x, _, rfl, k p H2 (fresh_back e hp) (e.trans e2) h2⟩
/-- .. the first a new list -/
theorem q_parL1 {i j : Nat} (h : EvL ta σ H xs) (h' : Ev tb σ H y) (k : ∀ p H1, H p = none → Ex H H1 → H1 p = some (.lst xs) → tz D ((σ.set i (some (.ref p))).set j (some y)) H1) : tSeq (tPar i j (tCons ta (tCons tb tNil))) tz D σ H :=
  h H (Ex.refl H) _ fun p H1 hp e h1 => h' H1 e _ fun H2 e2 => ⟨_, y, rfl, k p H2 hp (e.trans e2) (e2 _ _ h1)⟩
end
/-! ### further statements -/
section
variable {K : PySem.W.Frag} {σ : L2.St} {H H' : Hp} {ta tb tc te tl : TE} {t u : TT} {x y z v : V} {xs ys : List V} {D : Ends} {tu tw tz : TS}
/-- a, b = e1, e2 by a tuple, the first a new list -/
theorem q_tupLV {i j : Nat} (h : EvL ta σ H xs) (h' : Ev tb σ H y) (k : ∀ p H1, H p = none → Ex H H1 → H1 p = some (.lst xs) → tz D ((σ.set i (some (.ref p))).set j (some y)) H1) :
    tSeq (tAsg (tTup (tCons ta (tCons tb tNil))) (gTup K 2 (gCons (gName i) (gCons (gName j) gNil)))) tz D σ H :=
  h H (Ex.refl H) _ fun p H1 hp e h1 => h' H1 e _ fun H2 e2 => ⟨sz_of (by simp), fun q hq => ⟨q, _, rfl, st_of upd_same, rfl, _, _, rfl, _, _, rfl, rfl, k p _ hp ((e.trans e2).trans (Ex.new hq)) (Ex.new hq _ _ (e2 _ _ h1))⟩⟩
/-- xs.extend(a new list) -/
theorem s_extL {l : Addr} (hl : H l = some (.lst xs)) (ha : Ev ta σ H (.ref l)) (h : EvL te σ H ys) (hz : xs.length + ys.length ≤ 100000) (k : ∀ H1, Ex H H1 → D.nx σ (upd H1 l (.lst (xs ++ ys)))) :
    tDrop (tBM K "list" rExtend ta (tCons te tNil)) D σ H := ha H (Ex.refl H) _ fun H1 e1 =>
  ⟨Or.inl ⟨rfl, xs, sq_of (e1 l _ hl)⟩, h H1 e1 _ fun p H2 hp e2 h2 => ⟨l, p, xs, ys, rfl, rfl, e2 l _ (e1 l _ hl), h2, sz_of hz, k H2 (e1.trans e2)⟩⟩
theorem q_extL {l : Addr} (hl : H l = some (.lst xs)) (ha : Ev ta σ H (.ref l)) (h : EvL te σ H ys) (hz : xs.length + ys.length ≤ 100000) (k : ∀ H1, Ex H H1 → tz D σ (upd H1 l (.lst (xs ++ ys)))) :
    tSeq (tDrop (tBM K "list" rExtend ta (tCons te tNil))) tz D σ H := s_extL (D := { D with nx := tz D }) hl ha h hz k
theorem rv_isN : RV rIsN x .non H (.bl (decide (x = .non))) := fun H1 _ _ q => ⟨rfl, q H1 (Ex.refl H1)⟩
theorem rv_notN : RV rNotN x .non H (.bl (!decide (x = .non))) := fun H1 _ _ q => ⟨rfl, q H1 (Ex.refl H1)⟩
theorem rv_isB {a b : Bool} : RV rIsB (.bl a) (.bl b) H (.bl (decide (a = b))) := fun H1 _ _ q => ⟨a, b, rfl, rfl, q H1 (Ex.refl H1)⟩
theorem rv_notB {a b : Bool} : RV rNotB (.bl a) (.bl b) H (.bl (!decide (a = b))) := fun H1 _ _ q => ⟨a, b, rfl, rfl, q H1 (Ex.refl H1)⟩
end
end Sd

/-! The program and the laws' helpers as plain functions over ints, naturals and lists: no Python here. -/
namespace Sd
/-- a grid -/
def GOk (h w : Nat) : Prop := 1 ≤ h ∧ h ≤ 6 ∧ 1 ≤ w ∧ w ≤ 6
/-- some cells of it: rising, one at least -/
def Rising (cs : List Int) : Prop := cs.Pairwise (· < ·)
def InGrid (h w : Nat) (cs : List Int) : Prop := ∀ x ∈ cs, 0 ≤ x ∧ x < (h : Int) * w
def COk (h w : Nat) (cs : List Int) : Prop := cs ≠ [] ∧ InGrid h w cs ∧ Rising cs
def besideA (w : Nat) (x : Int) : List Int := if (w : Int) ≤ x then [x - w] else []
def besideB (w : Nat) (x : Int) : List Int := if 0 < x % (w : Int) then [x - 1] else []
def besideC (w : Nat) (x : Int) : List Int := if x % (w : Int) < (w : Int) - 1 then [x + 1] else []
def besideD (h w : Nat) (x : Int) : List Int := if x < (w : Int) * ((h : Int) - 1) then [x + w] else []
/-- the cells beside a cell, rising -/
def beside (h w : Nat) (x : Int) : List Int := besideA w x ++ besideB w x ++ besideC w x ++ besideD h w x
/-- how many sides of a cell are on the rim -/
def near (h w : Nat) (cs : List Int) (x : Int) : Nat := ((beside h w x).filter fun o => decide (o ∈ cs)).length
def sidesOf (h w : Nat) (cs : List Int) (x : Int) : Int := if x ∈ cs then 4 - (near h w cs x : Int) else (near h w cs x : Int)
def numbersOf (h w : Nat) (cs : List Int) : List (List Int) := (List.range h).map fun (r : Nat) => (List.range w).map fun (a : Nat) => sidesOf h w cs ((r : Int) * w + (a : Int))
theorem beside_len (h w : Nat) (x : Int) : (beside h w x).length ≤ 4 := by
  unfold beside besideA besideB besideC besideD
  simp only [List.length_append]
  split <;> split <;> split <;> split <;> simp
theorem hw_le {h w : Nat} (g : GOk h w) : (h : Int) * w ≤ 36 ∧ 1 ≤ (h : Int) * w := by
  obtain ⟨h1, h2, h3, h4⟩ := g
  have e1 : h = 1 ∨ h = 2 ∨ h = 3 ∨ h = 4 ∨ h = 5 ∨ h = 6 := by omega
  rcases e1 with rfl | rfl | rfl | rfl | rfl | rfl <;> omega
/-! ### the laws' helpers -/
def lNumber (c a s : Int) : Int :=
  if 10 ^ 18 ≤ c then c
  else
    let m := ((c + 977 * a) * 48271 + s) % 2147483647
    let n := m * (m + 31 * a + 7) * (m + c + 5)
    n * (n + 48271) / 1009
def lGridGo (most : Nat) : Nat → Nat → Nat → Nat × Nat
  | 0, h, w => (h, w)
  | k + 1, h, w => if most < h * w then (if w < h then lGridGo most k (h - 1) w else lGridGo most k h (w - 1)) else (h, w)
def lGrid (n : Int) (most : Nat) : Nat × Nat := lGridGo most 12 (1 + n % 6).toNat (1 + n / 6 % 6).toNat
def lSpots (r a : Int) : List (Int × Int) := [(r - 1, a), (r, a - 1), (r, a + 1), (r + 1, a)]
def lBeside (h w : Nat) (x : Int) : List Int :=
  ((lSpots (x / (w : Int)) (x % (w : Int))).filter fun (p : Int × Int) => (decide (0 ≤ p.1) && decide (p.1 < (h : Int))) && (decide (0 ≤ p.2) && decide (p.2 < (w : Int)))).map fun (p : Int × Int) => p.1 * (w : Int) + p.2
def lSides1 (h w : Nat) (cs : List Int) (x : Int) : Int :=
  ((lBeside h w x).length : Int) - (((lBeside h w x).filter fun o => decide (o ∈ cs) == decide (x ∈ cs)).length : Int) + (if x ∈ cs then 4 - ((lBeside h w x).length : Int) else 0)
def lNumbers (h w : Nat) (cs : List Int) : List (List Int) := (List.range h).map fun (r : Nat) => (List.range w).map fun (a : Nat) => lSides1 h w cs ((r : Int) * w + (a : Int))
/-- what the script draws -/
def lDrawn (ns : List Int) : List Int := if ns = [] then [5] else ns.take 63
def lPick (n k : Int) : Int := if k = 0 then n % 2 else if k = 1 then n % 3 else if k = 2 then 1 else n % 5
def lKeep (ns : List Int) (by_ : Int) (a : Nat) : Bool :=
  let ds := lDrawn ns
  let s := ds.sum + by_
  let n := lNumber (ds.getD (((a : Int) + by_) % (ds.length : Int)).toNat 0) ((a : Int) + by_) s / 3
  decide (0 < lPick n (s % 4))
def lCells0 (ns : List Int) (by_ : Int) (m : Nat) : List Int := ((List.range m).filter (lKeep ns by_)).map fun (a : Nat) => (a : Int)
def lCells (ns : List Int) (by_ : Int) (h w : Nat) : List Int :=
  let s := (lDrawn ns).sum + by_
  let f := lCells0 ns by_ (h * w)
  let f := if s % 4 = 2 then (f.filter fun c => decide (s / 4 % (h : Int) ≤ c / (w : Int))).filter fun c => decide (c % (w : Int) ≤ s / 8 % (w : Int)) else f
  if f = [] then [s % ((h : Int) * w)] else f
end Sd

/-! More mirrors: spread, is_inner, first_inner, is_ring. -/
namespace Sd
def spreadGo (h w : Nat) (cs : List Int) : Nat → List Int → Nat → List Int
  | 0, f, _ => f
  | k + 1, f, a =>
    match f[a]? with
    | none => f
    | some x => spreadGo h w cs k (f ++ (beside h w x).filter fun o => decide (o ∈ cs) && !decide (o ∈ f)) (a + 1)
/-- the cells come by from x within cs -/
def spread (h w : Nat) (x : Int) (cs : List Int) : List Int := spreadGo h w cs (cs.length + 2) [x] 0
def onEdge (h w : Nat) (x : Int) : Bool := decide (x < (w : Int)) || (decide ((w : Int) * ((h : Int) - 1) ≤ x) || decide (x % (w : Int) = 0 ∨ x % (w : Int) = (w : Int) - 1))
def restOf (h w : Nat) (cs : List Int) : List Int := ((List.range (h * w)).filter fun (i : Nat) => !decide ((i : Int) ∈ cs)).map fun (i : Nat) => (i : Int)
def isInner (h w : Nat) (cs : List Int) (x : Int) : Bool := (spread h w x (restOf h w cs)).all fun o => !onEdge h w o
def firstInner (h w : Nat) (cs : List Int) : Option Nat := (List.range (h * w)).find? fun (i : Nat) => !decide ((i : Int) ∈ cs) && isInner h w cs (i : Int)
def isRing (h w : Nat) (cs : List Int) : Bool := if (spread h w (cs.headD 0) cs).length < cs.length then false else (firstInner h w cs).isNone
/-! facts -/
theorem nodup_sub : ∀ {l m : List Int}, l.Nodup → (∀ o ∈ l, o ∈ m) → l.length ≤ m.length
  | [], m, _, _ => Nat.zero_le _
  | a :: r, m, hn, hs => by
    obtain ⟨h1, h2⟩ := List.nodup_cons.mp hn
    have ha := hs a List.mem_cons_self
    have := nodup_sub (m := m.erase a) h2 fun o ho => by
      have ne : o ≠ a := fun e => h1 (e ▸ ho)
      exact (List.mem_erase_of_ne ne).mpr (hs o (List.mem_cons_of_mem _ ho))
    rw [List.length_erase_of_mem ha] at this
    have : 0 < m.length := List.length_pos_of_mem ha
    rw [List.length_cons]
    omega
theorem beside_rising (h : Nat) {w : Nat} (hw : 0 < w) (x : Int) : (beside h w x).Pairwise (· < ·) := by
  unfold beside besideA besideB besideC besideD
  have m1 := Int.emod_lt_of_pos x (show (0 : Int) < (w : Int) by omega)
  have m0 := Int.emod_nonneg x (show (w : Int) ≠ 0 by omega)
  generalize x % (w : Int) = m at *
  split <;> split <;> split <;> split <;> simp <;> omega
theorem beside_nodup (h : Nat) {w : Nat} (hw : 0 < w) (x : Int) : (beside h w x).Nodup := (beside_rising h hw x).imp fun a => by omega
theorem spread_step {h w : Nat} (hw : 0 < w) {cs f : List Int} {x0 x : Int} (hn : f.Nodup) (hs : ∀ o ∈ f, o ∈ x0 :: cs) :
    (f ++ (beside h w x).filter fun o => decide (o ∈ cs) && !decide (o ∈ f)).Nodup ∧ ∀ o ∈ f ++ (beside h w x).filter fun o => decide (o ∈ cs) && !decide (o ∈ f), o ∈ x0 :: cs := by
  refine ⟨List.nodup_append.mpr ⟨hn, (beside_nodup h hw x).filter _, fun a ha b hb e => ?_⟩, fun o ho => ?_⟩
  · have := (List.mem_filter.mp hb).2
    simp only [Bool.and_eq_true, decide_eq_true_eq, Bool.not_eq_true', decide_eq_false_iff_not] at this
    exact this.2 (e ▸ ha)
  · rcases List.mem_append.mp ho with ho | ho
    · exact hs o ho
    · have := (List.mem_filter.mp ho).2
      simp only [Bool.and_eq_true, decide_eq_true_eq] at this
      exact List.mem_cons_of_mem _ this.1
theorem spreadGo_ok {h w : Nat} (hw : 0 < w) {cs : List Int} {x0 : Int} : ∀ (k : Nat) (f : List Int) (a : Nat), f.Nodup → (∀ o ∈ f, o ∈ x0 :: cs) → (spreadGo h w cs k f a).Nodup ∧ ∀ o ∈ spreadGo h w cs k f a, o ∈ x0 :: cs
  | 0, f, a, hn, hs => ⟨hn, hs⟩
  | k + 1, f, a, hn, hs => by
    unfold spreadGo
    cases f[a]? with
    | none => exact ⟨hn, hs⟩
    | some x =>
      have st := spread_step (h := h) hw (x := x) hn hs
      exact spreadGo_ok hw k _ _ st.1 st.2
theorem spread_ok (h : Nat) {w : Nat} (hw : 0 < w) (x : Int) (cs : List Int) : (spread h w x cs).Nodup ∧ ∀ o ∈ spread h w x cs, o ∈ x :: cs := spreadGo_ok hw _ _ _ (by simp) (by simp)
theorem spread_len (h : Nat) {w : Nat} (hw : 0 < w) (x : Int) (cs : List Int) : (spread h w x cs).length ≤ cs.length + 1 := nodup_sub (m := x :: cs) (spread_ok h hw x cs).1 (spread_ok h hw x cs).2
theorem restOf_len (h w : Nat) (cs : List Int) : (restOf h w cs).length ≤ h * w := by
  unfold restOf
  rw [List.length_map]
  have := List.length_filter_le (fun i : Nat => !decide ((i : Int) ∈ cs)) (List.range (h * w))
  rw [List.length_range] at this
  exact this
end Sd

/-! More mirrors: all_rings, fits, fitting_of. -/
namespace Sd
/-- the cells that a number names by its bits -/
def cellsOf (m k : Nat) : List Int := ((List.range m).filter fun (c : Nat) => decide (k / 2 ^ c % 2 = 1)).map fun (c : Nat) => (c : Int)
def ringsTo (h w i : Nat) : List (List Int) := ((List.range i).map fun j => cellsOf (h * w) (j + 1)).filter (isRing h w)
def allRings (h w : Nat) : List (List Int) := (ringsTo h w (2 ^ (h * w) - 1)).mergeSort fun p q => decide (p ≤ q)
def rowFits (row line : List Int) : Bool := !((row.zip line).any fun q => decide (0 ≤ q.1) && !decide (q.1 = q.2))
def fits (nss : List (List Int)) (cs : List Int) : Bool := (nss.zip (numbersOf nss.length (nss.headD []).length cs)).all fun p => rowFits p.1 p.2
def fittingOf (nss : List (List Int)) : List (List Int) := (allRings nss.length (nss.headD []).length).filter (fits nss)
theorem cellsOf_len (m k : Nat) : (cellsOf m k).length ≤ m := by
  unfold cellsOf
  rw [List.length_map]
  have := List.length_filter_le (fun (c : Nat) => decide (k / 2 ^ c % 2 = 1)) (List.range m)
  rw [List.length_range] at this
  exact this
theorem cellsOf_ne {m k : Nat} (h0 : 0 < k) (h1 : k < 2 ^ m) : cellsOf m k ≠ [] := by
  intro e
  unfold cellsOf at e
  have e1 := List.map_eq_nil_iff.mp e
  have all : ∀ c < m, ¬ k / 2 ^ c % 2 = 1 := fun c hc => by
    have := List.filter_eq_nil_iff.mp e1 c (List.mem_range.mpr hc)
    simpa using this
  have key : ∀ n, n ≤ m → k % 2 ^ n = 0 := by
    intro n
    induction n with
    | zero => intro _; simp [Nat.mod_one]
    | succ n ih =>
      intro hn
      have i1 := ih (by omega)
      have a := all n (by omega)
      rw [Nat.pow_succ, Nat.mod_mul, i1]
      have : k / 2 ^ n % 2 = 0 := by omega
      rw [this]
      simp
  have := key m (Nat.le_refl m)
  rw [Nat.mod_eq_of_lt h1] at this
  omega
theorem cellsOf_in {m k : Nat} : ∀ x ∈ cellsOf m k, 0 ≤ x ∧ x < (m : Int) := fun x hx => by
  unfold cellsOf at hx
  obtain ⟨c, hc, rfl⟩ := List.mem_map.mp hx
  have := List.mem_range.mp (List.mem_filter.mp hc).1
  omega
theorem cellsOf_rising (m k : Nat) : Rising (cellsOf m k) := by
  unfold Rising cellsOf
  rw [List.pairwise_map]
  exact ((List.pairwise_lt_range).filter _).imp fun h => by omega
theorem ringsTo_succ (h w i : Nat) : ringsTo h w (i + 1) = ringsTo h w i ++ if isRing h w (cellsOf (h * w) (i + 1)) = true then [cellsOf (h * w) (i + 1)] else [] := by
  unfold ringsTo
  rw [List.range_succ, List.map_append, List.filter_append]
  congr 1
  simp only [List.map_cons, List.map_nil, List.filter_cons, List.filter_nil]
theorem ringsTo_len (h w i : Nat) : (ringsTo h w i).length ≤ i := by
  unfold ringsTo
  have := List.length_filter_le (isRing h w) ((List.range i).map fun j => cellsOf (h * w) (j + 1))
  rw [List.length_map, List.length_range] at this
  exact this
theorem pow_le9 {m : Nat} (h : m ≤ 9) : 2 ^ m ≤ 512 := Nat.le_trans (Nat.pow_le_pow_right (by decide) h) (by decide)
theorem allRings_mem {h w : Nat} {cs : List Int} (hc : cs ∈ allRings h w) : ∃ k, 0 < k ∧ k < 2 ^ (h * w) ∧ cs = cellsOf (h * w) k ∧ isRing h w cs = true := by
  unfold allRings at hc
  have hc := List.mem_mergeSort.mp hc
  unfold ringsTo at hc
  obtain ⟨h1, h2⟩ := List.mem_filter.mp hc
  obtain ⟨j, hj, rfl⟩ := List.mem_map.mp h1
  have := List.mem_range.mp hj
  exact ⟨j + 1, by omega, by omega, rfl, h2⟩
theorem allRings_len (h w : Nat) (hm : h * w ≤ 9) : (allRings h w).length ≤ 512 := by
  unfold allRings
  rw [List.length_mergeSort]
  have := ringsTo_len h w (2 ^ (h * w) - 1)
  have := pow_le9 hm
  omega
theorem allRings_ok {h w : Nat} {cs : List Int} (hc : cs ∈ allRings h w) : COk h w cs := by
  obtain ⟨k, h0, h1, rfl, _⟩ := allRings_mem hc
  refine ⟨cellsOf_ne h0 h1, fun x hx => ?_, cellsOf_rising _ _⟩
  have := cellsOf_in x hx
  rw [Int.natCast_mul] at this
  exact this
end Sd

/-! More mirrors: side_ahead, walk. -/
namespace Sd
def inCell (h w : Nat) (cs : List Int) (r c : Int) : Bool := (decide (0 ≤ r) && decide (r < (h : Int))) && ((decide (0 ≤ c) && decide (c < (w : Int))) && decide (r * (w : Int) + c ∈ cs))
def pairOf (r c : Int) : Nat → (Int × Int) × (Int × Int)
  | 0 => ((r - 1, c), (r, c))
  | 1 => ((r, c), (r, c - 1))
  | 2 => ((r, c - 1), (r - 1, c - 1))
  | _ => ((r - 1, c - 1), (r - 1, c))
def sideAhead (h w : Nat) (cs : List Int) (r c : Int) (t : Nat) : Bool := inCell h w cs (pairOf r c t).1.1 (pairOf r c t).1.2 != inCell h w cs (pairOf r c t).2.1 (pairOf r c t).2.2
def stepOf : Nat → Int × Int
  | 0 => (0, 1)
  | 1 => (1, 0)
  | 2 => (0, -1)
  | _ => (-1, 0)
def ways (h w : Nat) (cs : List Int) (r c : Int) (t : Nat) : List Nat := (List.range 4).filter fun y => !decide (y = (t + 2) % 4) && sideAhead h w cs r c y
def walkGo (h w : Nat) (cs : List Int) (fr fc : Int) : Nat → List (Int × Int) → Nat → Int → Int → Option (List (Int × Int))
  | 0, _, _, _, _ => none
  | k + 1, f, t, r, c =>
    if r = fr ∧ c = fc then some f
    else match ways h w cs r c t with
      | [] => none
      | y :: _ => walkGo h w cs fr fc k (f ++ [(r, c)]) y (r + (stepOf y).1) (c + (stepOf y).2)
def walkOf (h w : Nat) (cs : List Int) : Option (List (Int × Int)) :=
  walkGo h w cs (cs.headD 0 / (w : Int)) (cs.headD 0 % (w : Int)) 200 [(cs.headD 0 / (w : Int), cs.headD 0 % (w : Int))] 0 (cs.headD 0 / (w : Int)) (cs.headD 0 % (w : Int) + 1)
theorem ways_lt {h w : Nat} {cs : List Int} {r c : Int} {t y : Nat} (hy : y ∈ ways h w cs r c t) : y < 4 := List.mem_range.mp (List.mem_filter.mp hy).1
end Sd

namespace Sd
open PySem L2 Evl
local macro_rules | `(tactic| walk_at "side") => `(tactic| first
  | assumption
  | rfl
  | decide
  | omega
  | (show (0 : Int) < _; omega)
  | (show (0 : Int) < _; decide)
  | exact ⟨by omega, by omega⟩
  | exact .inl ⟨by omega, by omega⟩
  | exact .inr ⟨by omega, by omega⟩
  | exact ⟨by decide, by decide, by decide⟩)
local macro_rules | `(tactic| walk_at "rv") => `(tactic| first
  | with_reducible exact rv_I0
  | ((with_reducible refine' rv_I ?rvc); (case rvc => walk_at "side"))
  | with_reducible exact rv_eq rfl
  | with_reducible exact rv_ne rfl)
local macro_rules | `(tactic| walk_at "es") => `(tactic| first
  | with_reducible assumption
  | ((with_reducible refine' es_of ?esa ?esb); (case esa => walk_at "ev"); (case esb => with_reducible assumption))
  | ((with_reducible refine' es_new ?esa); (case esa => walk_at "el")))
local macro_rules | `(tactic| walk_at "el") => `(tactic| first
  | with_reducible assumption
  | ((with_reducible refine' el_lst ?ela ?elb); (case ela => walk_at "ea"); (case elb => simp)))
local macro_rules | `(tactic| walk_at "est") => `(tactic| first
  | with_reducible assumption
  | ((with_reducible refine' est_of ?esa ?esb); (case esa => walk_at "ev"); (case esb => with_reducible assumption))
  | ((with_reducible refine' est_new (eu_tup ?esa ?esb)); (case esa => walk_at "ea"); (case esb => simp)))
local macro_rules | `(tactic| walk_at "ev") => `(tactic| first
  | ((with_reducible refine' ev_var ?eva); (case eva => rfl))
  | with_reducible exact ev_c
  | with_reducible assumption
  | ((with_reducible refine' ev_isIn ?eva ?evb); (case eva => walk_at "ev"); (case evb => walk_at "es"))
  | ((with_reducible refine' ev_notIn ?eva ?evb); (case eva => walk_at "ev"); (case evb => walk_at "es"))
  | ((with_reducible refine' ev_inT2 ?eva ?evb); (case eva => walk_at "ev"); (case evb => walk_at "est"))
  | ((with_reducible refine' ev_ixT ?eva ?evb ?evc); (case eva => walk_at "est"); (case evb => walk_at "ev"); (case evc => rfl))
  | ((with_reducible refine' ev_op ?eva ?evb ?evc); (case eva => walk_at "ev"); (case evb => walk_at "ev"); (case evc => walk_at "rv"))
  | ((with_reducible refine' ev_un ?eva ?evb); (case eva => walk_at "ev"); (case evb => exact ru_neg))
  | ((with_reducible refine' ev_chain ?eva ?evb ?evc (fun _ => ?evd) (fun _ => ?eve)); (case eva => walk_at "ev"); (case evb => walk_at "ev"); (case evc => walk_at "rv"); (case evd => walk_at "ev"); (case eve => walk_at "rv"))
  | ((with_reducible refine' ev_notV ?eva); (case eva => walk_at "ev"))
  | ((with_reducible refine' ev_andV ?eva (fun _ => ?evb)); (case eva => walk_at "ev"); (case evb => walk_at "ev"))
  | ((with_reducible refine' ev_orV ?eva (fun _ => ?evb)); (case eva => walk_at "ev"); (case evb => walk_at "ev"))
  | ((with_reducible refine' ev_lenS ?eva); (case eva => walk_at "es"))
  | ((with_reducible refine' ev_sumS ?eva); (case eva => walk_at "es")))
local macro_rules | `(tactic| walk_at "ea") => `(tactic| first
  | with_reducible exact ea_nil
  | ((with_reducible refine' ea_cons ?eaa ?eab); (case eaa => walk_at "ev"); (case eab => walk_at "ea")))
local macro_rules | `(tactic| walk_at "et") => `(tactic| first
  | with_reducible exact et_yes
  | with_reducible assumption
  | ((with_reducible refine' et_test ?eta); (case eta => walk_at "ev"))
  | ((with_reducible refine' et_B ?eta); (case eta => walk_at "ev"))
  | ((with_reducible refine' et_not ?eta); (case eta => walk_at "et"))
  | ((with_reducible refine' et_and ?eta (fun _ => ?etb)); (case eta => walk_at "et"); (case etb => walk_at "et"))
  | ((with_reducible refine' et_or ?eta (fun _ => ?etb)); (case eta => walk_at "et"); (case etb => walk_at "et")))

/-! ### is_whole -/
/-- the classes' places -/
structure Ad where
  (cBadGrid cBadCells cBadClues cNoRing cRingError cRing cSplit cHole cOne cTwo cNever cAnswer : Addr)
def RetE (c : Addr) (H : Hp) (E : XK) : Prop := ∀ H2, Ex H H2 → E (.ref c) none H2
def plainTypes : List String := ["NoneType", "bool", "int", "str", "list", "tuple", "dict"]
def isInt : V → Bool
  | .int _ => true
  | _ => false
/-- a value whose type is known -/
def Known (K : PySem.W.Frag) (H : Hp) (v : V) (n : String) : Prop := TyX K H v (.type n) ∧ n ∈ plainTypes
section
variable {K : PySem.W.Frag} {σ : L2.St} {H H' : Hp} {v : V} {n : String}
theorem TyOf.mono (e : Ex H H') {v : V} {t : Value} (h : TyOf K H v t) : TyOf K H' v t := by
  cases h with
  | non => exact .non
  | bl x => exact .bl x
  | int i => exact .int i
  | str x => exact .str x
  | flt x => exact .flt x
  | lst h => exact .lst (e _ _ h)
  | frz h => exact .frz (e _ _ h)
  | tup h => exact .tup (e _ _ h)
  | dK h => exact .dK (e _ _ h)
  | dT h => exact .dT (e _ _ h)
  | ins h a b c d f => exact .ins (e _ _ h) a b c d f
theorem TyX.mono (e : Ex H H') {v : V} {t : Value} (h : TyX K H v t) : TyX K H' v t := by
  cases h with
  | base h => exact .base (TyOf.mono e h)
  | byt b => exact .byt b
  | set h => exact .set (e _ _ h)
  | kList a b => exact .kList a b
  | kTuple a b => exact .kTuple a b
  | kDict a b => exact .kDict a b
  | fTuple h => exact .fTuple (e _ _ h)
  | fDict h => exact .fDict (e _ _ h)
theorem Known.mono (e : Ex H H') (h : Known K H v n) : Known K H' v n := ⟨TyX.mono e h.1, h.2⟩
theorem ty_list {a : Addr} {xs : List V} (h : SqL K H a xs) : TyX K H (.ref a) (.type "list") := by
  rcases h with (h | ⟨o, h⟩) | ⟨o, its, n, h, hc, _⟩
  · exact .base (.lst h)
  · exact .base (.frz h)
  · exact .kList h hc
theorem ty_tuple {a : Addr} {xs : List V} (h : SqT K H a xs) : TyX K H (.ref a) (.type "tuple") := by
  rcases h with (h | ⟨o, h⟩) | ⟨o, its, n, h, hc, _⟩
  · exact .base (.tup h)
  · exact .fTuple h
  · exact .kTuple h hc
theorem known_int (i : Int) : Known K H (.int i) "int" := ⟨.base (.int i), by decide⟩
theorem known_dp {d : PyData} (h : Dp K H v d) : ∃ n, Known K H v n := by
  cases h with
  | non => exact ⟨_, .base .non, by decide⟩
  | bl b => exact ⟨_, .base (.bl b), by decide⟩
  | int i => exact ⟨_, known_int i⟩
  | str x => exact ⟨_, .base (.str x), by decide⟩
  | lst h _ => exact ⟨_, ty_list h, by decide⟩
  | tup h _ => exact ⟨_, ty_tuple h, by decide⟩
/-- what isinstance says of the plain types -/
theorem kit_int : ∀ n ∈ plainTypes, PySem.W.kitOne K (.type n) (.type "int") = some (n == "int" || n == "bool") := by
  intro n hn
  have : kitB n "int" = some (n == "int" || n == "bool") := by
    revert n hn
    decide +kernel
  exact kit_ty this
theorem kit_bool : ∀ n ∈ plainTypes, PySem.W.kitOne K (.type n) (.type "bool") = some (n == "bool") := by
  intro n hn
  have : kitB n "bool" = some (n == "bool") := by
    revert n hn
    decide +kernel
  exact kit_ty this
theorem kit_list : ∀ n ∈ plainTypes, PySem.W.kitOne K (.type n) (.type "list") = some (n == "list") := by
  intro n hn
  have : kitB n "list" = some (n == "list") := by
    revert n hn
    decide +kernel
  exact kit_ty this
theorem kit_tuple : ∀ n ∈ plainTypes, PySem.W.kitOne K (.type n) (.type "tuple") = some (n == "tuple") := by
  intro n hn
  have : kitB n "tuple" = some (n == "tuple") := by
    revert n hn
    decide +kernel
  exact kit_ty this
theorem int_name (h : Known K H v n) : isInt v = (n == "int") := by
  obtain ⟨h, _⟩ := h
  cases h with
  | base h => cases h <;> rfl
  | kList => rfl
  | kTuple => rfl
  | kDict => rfl
  | fTuple => rfl
  | fDict => rfl
  | byt => rfl
  | set => rfl
variable {ta : TE}
theorem ev_isiInt (ha : Ev ta σ H v) (hk : Known K H v n) : Ev (tCB (rIsi K) (tCons ta (tCons (tC (.ty "int")) tNil))) σ H (.bl (n == "int" || n == "bool")) :=
  ev_isi ha ev_c (.ty "int") (fun _ e => (hk.mono e).1) (kit_int n hk.2)
theorem ev_isiBool (ha : Ev ta σ H v) (hk : Known K H v n) : Ev (tCB (rIsi K) (tCons ta (tCons (tC (.ty "bool")) tNil))) σ H (.bl (n == "bool")) :=
  ev_isi ha ev_c (.ty "bool") (fun _ e => (hk.mono e).1) (kit_bool n hk.2)
theorem ev_isiList (ha : Ev ta σ H v) (hk : Known K H v n) : Ev (tCB (rIsi K) (tCons ta (tCons (tC (.ty "list")) tNil))) σ H (.bl (n == "list")) :=
  ev_isi ha ev_c (.ty "list") (fun _ e => (hk.mono e).1) (kit_list n hk.2)
theorem ev_isiTuple (ha : Ev ta σ H v) (hk : Known K H v n) : Ev (tCB (rIsi K) (tCons ta (tCons (tC (.ty "tuple")) tNil))) σ H (.bl (n == "tuple")) :=
  ev_isi ha ev_c (.ty "tuple") (fun _ e => (hk.mono e).1) (kit_tuple n hk.2)
end
theorem whole_names : ∀ n ∈ plainTypes, ((n == "int" || n == "bool") && !(n == "bool")) = (n == "int") := by decide +kernel
def sp_is_whole (K : PySem.W.Frag) : Sp := fun vs H Q _ => ∃ v n, vs = [v] ∧ Known K H v n ∧ RetV (.bl (isInt v)) H Q
theorem ev_is_whole {K : PySem.W.Frag} {σ : L2.St} {H : Hp} {ta : TA} {E : XK} {v : V} {n : String} (ha : EvA ta σ H [v]) (hk : Known K H v n) : Ev (tCall (sp_is_whole K) [] E ta) σ H (.bl (isInt v)) := fun H1 e Q q =>
  ha H1 e _ fun H2 e2 => ⟨v, n, rfl, hk.mono (e.trans e2), fun H3 e3 => q H3 (e2.trans e3)⟩
def t_is_whole (K : PySem.W.Frag) : TS := (tRet (tAndV (tCB (rIsi K) (tCons (tVar 0) (tCons (tC (.ty "int")) tNil))) (tNotV (tCB (rIsi K) (tCons (tVar 0) (tCons (tC (.ty "bool")) tNil))))))
theorem pure_is_whole {K : PySem.W.Frag} {vs : List V} {H : Hp} {Q : VK} {E : XK} {D : Ends} (hD : D.rt = Q) (h : sp_is_whole K vs H Q E) : t_is_whole K D (start ["thing"] vs) H := by
  obtain ⟨v, n, rfl, hk, q⟩ := h
  subst hD
  refine s_ret (ev_andV (ev_isiInt (ev_var rfl) hk) (fun _ => ev_notV (ev_isiBool (ev_var rfl) hk))) fun H1 e1 => ?_
  have e : ((n == "int" || n == "bool") && !(n == "bool")) = isInt v := by
    rw [int_name hk]
    exact whole_names n hk.2
  rw [e]
  exact q H1 e1
/-! ### check_grid -/
/-- what is no grid -/
def badDim (v : V) : Prop := ∀ n, v = .int n → ¬ (1 ≤ n ∧ n ≤ 6)
def BadG (K : PySem.W.Frag) (H : Hp) (v : V) : Prop := (∃ n, Known K H v n ∧ n ≠ "tuple") ∨ ∃ a xs, v = .ref a ∧ SqT K H a xs ∧ xs.length ≤ 1000 ∧ (∀ x ∈ xs, ∃ n, Known K H x n) ∧ (xs.length ≠ 2 ∨ ∃ x ∈ xs, badDim x)
def sp_check_grid (K : PySem.W.Frag) (C : Ad) : Sp := fun vs H Q E => ∃ v, vs = [v] ∧
  ((∃ g h w, v = .ref g ∧ SqT K H g [.int ((h : Nat) : Int), .int ((w : Nat) : Int)] ∧ GOk h w ∧ RetV .non H Q) ∨ (BadG K H v ∧ RetE C.cBadGrid H E))

def t_check_grid (K : PySem.W.Frag) (C : Ad) (E : XK) : TS := (tIfS (tOr (tNot (tB (tCB (rIsi K) (tCons (tVar 0) (tCons (tC (.ty "tuple")) tNil))))) (tOr (tTest (tOp rNe (tCB (rLenS K) (tCons (tVar 0) tNil)) (tC (.int 2)))) (tNot (tB (tCB (rAll K) (tCons (tLc (iTup K (tVar 0)) (gName 1) tYes (tAndV (tCall (sp_is_whole K) [] E0 (tCons (tVar 1) tNil)) (tChain oLe oLe (tC (.int 1)) (tVar 1) (tC (.int 6)))) [1]) tNil)))))) (tRaise E (.ref C.cBadGrid)) tNext)
theorem known_grid {K : PySem.W.Frag} {H : Hp} {h w : Int} : ∀ x ∈ [V.int h, V.int w], ∃ n, Known K H x n := fun x hx => by
  rcases List.mem_cons.mp hx with e | hx
  · rw [e]; exact ⟨_, known_int h⟩
  · rcases List.mem_cons.mp hx with e | hx
    · rw [e]; exact ⟨_, known_int w⟩
    · cases hx
/-- a whole number within -/
def inRange (lo hi : Int) : V → Bool
  | .int n => decide (lo ≤ n) && decide (n ≤ hi)
  | _ => false
theorem isInt_of {v : V} (h : isInt v = true) : ∃ n, v = .int n := by
  cases v with
  | int n => exact ⟨n, rfl⟩
  | _ => cases h
theorem all_dims {K : PySem.W.Frag} {H : Hp} {g : Addr} {xs : List V} {N : List Str} (hN : N.length = 2) (hs : SqT K H g xs) (hl : xs.length ≤ 1000) (hk : ∀ x ∈ xs, ∃ n, Known K H x n) :
    Ev (tCB (rAll K) (tCons (tLc (iTup K (tVar 0)) (gName 1) tYes (tAndV (tCall (sp_is_whole K) [] E0 (tCons (tVar 1) tNil)) (tChain oLe oLe (tC (.int 1)) (tVar 1) (tC (.int 6)))) [1]) tNil)) [some (.ref g), none] H (.bl (xs.all (inRange 1 6))) := by
  have e : (((xs.filter fun _ => true).map fun x => V.bl (inRange 1 6 x))) = (xs.map (inRange 1 6)).map V.bl := by
    rw [filter_yes, List.map_map]
    rfl
  have w : EvL (tLc (iTup K (tVar 0)) (gName 1) tYes (tAndV (tCall (sp_is_whole K) [] E0 (tCons (tVar 1) tNil)) (tChain oLe oLe (tC (.int 1)) (tVar 1) (tC (.int 6)))) [1]) [some (.ref g), none] H ((xs.map (inRange 1 6)).map V.bl) := by
    rw [← e]
    refine el_lcT (fun _ => true) _ (est_of (ev_var rfl) hs) (by omega) (fun x => rfl) (fun x H1 e1 hx => et_yes) (fun x H1 e1 hx _ => ?_)
    obtain ⟨n, hn⟩ := hk x hx
    have r : inRange 1 6 x = (isInt x && inRange 1 6 x) := by cases x <;> rfl
    rw [r]
    refine ev_andV (ev_is_whole (ea_cons (ev_var rfl) ea_nil) (hn.mono e1)) (fun hi => ?_)
    obtain ⟨m, rfl⟩ := isInt_of hi
    exact ev_chain ev_c (ev_var rfl) rv_I0 (fun _ => ev_c) (fun _ => rv_I0)
  have z := ev_allS (K := K) (es_new (K := K) w)
  rw [List.all_map] at z
  exact z
theorem pure_check_grid {K : PySem.W.Frag} {C : Ad} {vs : List V} {H : Hp} {Q : VK} {E : XK} {D : Ends} (hD : D.nx = fun _ H' => Q .non H') (h : sp_check_grid K C vs H Q E) : t_check_grid K C E D (start ["grid", "one"] vs) H := by
  obtain ⟨v, rfl, h⟩ := h
  rcases h with ⟨g, h, w, rfl, hs, gk, q⟩ | ⟨hb, q⟩
  · have a := all_dims (N := ["grid", "one"]) rfl hs (by simp) known_grid
    refine s_when (et_or (et_not (et_B (ev_isiTuple (ev_var rfl) ⟨ty_tuple hs, by decide⟩))) (fun _ => et_or (et_test (ev_op (ev_lenT (est_of (ev_var rfl) hs)) ev_c (rv_ne rfl))) (fun _ => et_not (et_B a)))) (fun hb => ?_) (fun _ H1 e1 => ?_)
    · exfalso
      obtain ⟨g1, g2, g3, g4⟩ := gk
      have e : ([V.int (h : Int), V.int (w : Int)].all (inRange 1 6)) = true := by
        simp only [List.all_cons, List.all_nil, inRange, Bool.and_true, Bool.and_eq_true, decide_eq_true_eq]
        omega
      rw [e] at hb
      revert hb
      simp
    · rw [hD]
      exact q H1 e1
  · rcases hb with ⟨n, hk, hn⟩ | ⟨a, xs, rfl, hs, hl, hk, hb⟩
    · have e : (n == "tuple") = false := by simpa using hn
      refine s_when (b := true) (et_is (et_or (b := true) (et_not (et_B (ev_isiTuple (ev_var rfl) hk))) (fun z => ?_)) (by rw [e]; rfl)) (fun _ H1 e1 => q H1 e1) (fun z => nomatch z)
      rw [e] at z
      cases z
    · have a := all_dims (N := ["grid", "one"]) rfl hs hl hk
      refine s_when (et_or (et_not (et_B (ev_isiTuple (ev_var rfl) ⟨ty_tuple hs, by decide⟩))) (fun _ => et_or (et_test (ev_op (ev_lenT (est_of (ev_var rfl) hs)) ev_c (rv_ne rfl))) (fun _ => et_not (et_B a)))) (fun _ H1 e1 => q H1 e1) (fun z => ?_)
      exfalso
      rcases hb with hb | ⟨x, hx, hb⟩
      · have e : decide (V.int (xs.length : Int) = V.int 2) = false := decide_eq_false fun z => hb (by have := V.int.inj z; omega)
        rw [e] at z
        simp at z
      · have e : xs.all (inRange 1 6) = false := by
          rw [List.all_eq_false]
          refine ⟨x, hx, ?_⟩
          cases x with
          | int n =>
            have := hb n rfl
            simp only [inRange, Bool.and_eq_true, decide_eq_true_eq]
            exact this
          | _ => simp [inRange]
        rw [e] at z
        simp at z
theorem ev_check_grid {K : PySem.W.Frag} {C : Ad} {σ : L2.St} {H : Hp} {ta : TA} {E : XK} {g : Addr} {h w : Nat} (ha : EvA ta σ H [.ref g]) (hs : SqT K H g [.int (h : Int), .int (w : Int)]) (gk : GOk h w) : Ev (tCall (sp_check_grid K C) [] E ta) σ H .non := fun H1 e Q q =>
  ha H1 e _ fun H2 e2 => ⟨_, rfl, .inl ⟨g, h, w, rfl, ex_t (e.trans e2) hs, gk, fun H3 e3 => q H3 (e2.trans e3)⟩⟩

/-! ### check_cells -/
/-- a whole number from 0, below m -/
def inCells (m : Int) : V → Bool
  | .int n => decide (0 ≤ n) && decide (n < m)
  | _ => false
def BadC (K : PySem.W.Frag) (H : Hp) (m : Int) (v : V) : Prop := (∃ n, Known K H v n ∧ n ≠ "list") ∨ ∃ a xs ds, v = .ref a ∧ SqL K H a xs ∧ DpAll K H xs ds ∧ SeqAt.shaped (.list ds) = true ∧ xs.length ≤ 1000 ∧
  (xs = [] ∨ xs.all (inCells m) = false ∨ ∃ ns : List Int, xs = ns.map V.int ∧ ¬ Rising ns)
def sp_check_cells (K : PySem.W.Frag) (C : Ad) : Sp := fun vs H Q E => ∃ g h w v, vs = [.ref g, v] ∧ SqT K H g [.int ((h : Nat) : Int), .int ((w : Nat) : Int)] ∧ GOk h w ∧
  ((∃ c cs, v = .ref c ∧ SqL K H c (cs.map V.int) ∧ COk h w cs ∧ RetV .non H Q) ∨ (BadC K H ((h : Int) * w) v ∧ RetE C.cBadCells H E))
def t_check_cells (K : PySem.W.Frag) (C : Ad) (E : XK) : TS := (tSeq (tAsg (tOp oMul (tOp (rIxT K) (tVar 0) (tC (.int 0))) (tOp (rIxT K) (tVar 0) (tC (.int 1)))) (gName 2))
      (tSeq (tIfS (tOr (tNot (tB (tCB (rIsi K) (tCons (tVar 1) (tCons (tC (.ty "list")) tNil))))) (tOr (tTest (tOp (rEqD K) (tVar 1) (tLst tNil))) (tNot (tB (tCB (rAll K) (tCons (tLc (iList K (tVar 1)) (gName 3) tYes (tAndV (tCall (sp_is_whole K) [] E0 (tCons (tVar 3) tNil)) (tChain oLe oLt (tC (.int 0)) (tVar 3) (tVar 2))) [3]) tNil)))))) (tRaise E (.ref C.cBadCells)) tNext)
      (tIfS (tB (tCB (rAny K) (tCons (tLc (iZip K (tCons (tVar 1) (tCons (tSl (rSlL K) (tVar 1) (tPart (tC (.int 1))) tNoPart) tNil))) (gTup K 2 (gCons (gName 3) (gCons (gName 4) gNil))) tYes (tOp oGe (tVar 3) (tVar 4)) [3, 4]) tNil))) (tRaise E (.ref C.cBadCells)) tNext)))
theorem shaped_of_len {ds : List PyData} (h1 : PyData.canLayAll0 ds = true) (h2 : PyData.depthAll ds ≤ 63) : SeqAt.shaped (.list ds) = true := by
  have e1 : PyData.canLay0 (.list ds) = true := by
    rw [PyData.canLay0]
    exact h1
  have e2 : PyData.depth (.list ds) ≤ 64 := by
    rw [PyData.depth]
    omega
  unfold SeqAt.shaped
  rw [e1, decide_eq_true e2]
  rfl
theorem lay_ints : ∀ ns : List Int, PyData.canLayAll0 (ns.map PyData.int) = true
  | [] => rfl
  | n :: r => by simp [PyData.canLayAll0, PyData.canLay0, lay_ints r]
theorem depth_ints : ∀ ns : List Int, PyData.depthAll (ns.map PyData.int) ≤ 1
  | [] => by simp [PyData.depthAll]
  | n :: r => by
    have := depth_ints r
    simp only [List.map_cons, PyData.depthAll, PyData.depth]
    omega
theorem shaped_ints (ns : List Int) : SeqAt.shaped (dI ns) = true := shaped_of_len (lay_ints ns) (by have := depth_ints ns; omega)
theorem shaped_nil : SeqAt.shaped (.list []) = true := shaped_ints []
theorem ed_nil {K : PySem.W.Frag} {σ : L2.St} {H : Hp} : EvD K (tLst tNil) σ H (.list []) := fun H1 e Q q => el_lst (σ := σ) (H := H) ea_nil (by simp) H1 e Q fun p H2 _ e2 hp => q _ H2 e2 (.lst (sq_of hp) .nil)
theorem eqv_nil (ds : List PyData) : PyData.eqv (.list ds) (.list []) = decide (ds = []) := by
  cases ds <;> simp [PyData.eqv, PyData.eqvAll]
theorem dpAll_len {K : PySem.W.Frag} {H : Hp} : ∀ {xs : List V} {ds : List PyData}, DpAll K H xs ds → xs.length = ds.length
  | _, _, .nil => rfl
  | _, _, .cons _ h => by rw [List.length_cons, List.length_cons, dpAll_len h]
theorem dpAll_mem {K : PySem.W.Frag} {H : Hp} : ∀ {xs : List V} {ds : List PyData}, DpAll K H xs ds → ∀ x ∈ xs, ∃ d, Dp K H x d
  | _, _, .cons h hs, x, hx => by
    rcases List.mem_cons.mp hx with e | hx
    · rw [e]; exact ⟨_, h⟩
    · exact dpAll_mem hs x hx
theorem all_cells {K : PySem.W.Frag} {H : Hp} {a : Addr} {xs : List V} {m : Int} {y0 : Option V} (hs : SqL K H a xs) (hl : xs.length ≤ 1000) (hk : ∀ x ∈ xs, ∃ n, Known K H x n) :
    Ev (tCB (rAll K) (tCons (tLc (iList K (tVar 1)) (gName 3) tYes (tAndV (tCall (sp_is_whole K) [] E0 (tCons (tVar 3) tNil)) (tChain oLe oLt (tC (.int 0)) (tVar 3) (tVar 2))) [3]) tNil)) [y0, some (.ref a), some (.int m), none, none] H (.bl (xs.all (inCells m))) := by
  have e : (((xs.filter fun _ => true).map fun x => V.bl (inCells m x))) = (xs.map (inCells m)).map V.bl := by
    rw [filter_yes, List.map_map]
    rfl
  have w : EvL (tLc (iList K (tVar 1)) (gName 3) tYes (tAndV (tCall (sp_is_whole K) [] E0 (tCons (tVar 3) tNil)) (tChain oLe oLt (tC (.int 0)) (tVar 3) (tVar 2))) [3]) [y0, some (.ref a), some (.int m), none, none] H ((xs.map (inCells m)).map V.bl) := by
    rw [← e]
    refine el_lc (fun _ => true) _ (es_of (ev_var rfl) hs) (by omega) (fun x => rfl) (fun x H1 e1 hx => et_yes) (fun x H1 e1 hx _ => ?_)
    obtain ⟨n, hn⟩ := hk x hx
    have r : inCells m x = (isInt x && inCells m x) := by cases x <;> rfl
    rw [r]
    refine ev_andV (ev_is_whole (ea_cons (ev_var rfl) ea_nil) (hn.mono e1)) (fun hi => ?_)
    obtain ⟨k, rfl⟩ := isInt_of hi
    exact ev_chain ev_c (ev_var rfl) rv_I0 (fun _ => ev_var rfl) (fun _ => rv_I0)
  have z := ev_allS (K := K) (es_new (K := K) w)
  rw [List.all_map] at z
  exact z
theorem cut1 (xs : List V) : cutV xs (some 1) none = xs.drop 1 := by
  unfold cutV
  rw [show HT.sIx xs.length 0 (some 1) = min 1 xs.length from HT.sIx_nat xs.length 0 1, HT.sIx_none]
  cases xs with
  | nil => rfl
  | cons x r =>
    rw [show min 1 (x :: r).length = 1 by rw [List.length_cons]; omega]
    show (List.take ((x :: r).length - 1) r) = r
    rw [List.length_cons, Nat.add_sub_cancel]
    exact List.take_length
/-- neighbours that do not rise -/
def falls : List Int → Bool
  | x :: y :: r => decide (y ≤ x) || falls (y :: r)
  | _ => false
theorem falls_eq : ∀ ns : List Int, ((ns.zip (ns.drop 1)).map fun p => decide (p.2 ≤ p.1)).any id = falls ns
  | [] => rfl
  | [_] => rfl
  | x :: y :: r => by
    have ih := falls_eq (y :: r)
    simp only [List.drop_succ_cons, List.drop_zero] at ih ⊢
    rw [List.zip_cons_cons, List.map_cons, List.any_cons, ih]
    rfl
theorem falls_rising : ∀ ns : List Int, falls ns = false ↔ Rising ns
  | [] => ⟨fun _ => .nil, fun _ => rfl⟩
  | [x] => ⟨fun _ => List.pairwise_singleton _ x, fun _ => rfl⟩
  | x :: y :: r => by
    have ih := falls_rising (y :: r)
    unfold Rising at ih ⊢
    have e : falls (x :: y :: r) = (decide (y ≤ x) || falls (y :: r)) := rfl
    rw [e, Bool.or_eq_false_iff, ih, decide_eq_false_iff_not]
    constructor
    · rintro ⟨h1, h2⟩
      refine List.pairwise_cons.mpr ⟨fun z hz => ?_, h2⟩
      rcases List.mem_cons.mp hz with rfl | hz
      · omega
      · have := List.rel_of_pairwise_cons h2 hz
        omega
    · intro h
      obtain ⟨h1, h2⟩ := List.pairwise_cons.mp h
      exact ⟨by have := h1 y List.mem_cons_self; omega, h2⟩
theorem any_falls {K : PySem.W.Frag} {H : Hp} {a : Addr} {ns : List Int} {y0 y2 : Option V} (hs : SqL K H a (ns.map V.int)) (hl : ns.length ≤ 1000) :
    Ev (tCB (rAny K) (tCons (tLc (iZip K (tCons (tVar 1) (tCons (tSl (rSlL K) (tVar 1) (tPart (tC (.int 1))) tNoPart) tNil))) (gTup K 2 (gCons (gName 3) (gCons (gName 4) gNil))) tYes (tOp oGe (tVar 3) (tVar 4)) [3, 4]) tNil)) [y0, some (.ref a), y2, none, none] H (.bl (falls ns)) := by
  have s2 : EvL (tSl (rSlL K) (tVar 1) (tPart (tC (.int 1))) tNoPart) [y0, some (.ref a), y2, none, none] H ((ns.drop 1).map V.int) := by
    have := el_sl (K := K) (te := tVar 1) (σ := [y0, some (.ref a), y2, none, none]) (H := H) (ev_var (i := 1) rfl) (eo_some ev_c) eo_none hs (lo := some 1)
    rw [cut1, ← List.map_drop] at this
    exact this
  have w := el_lcZ (K := K) (t := tYes) (te := tOp oGe (tVar 3) (tVar 4)) (σ := [y0, some (.ref a), y2, none, none]) (H := H) (i := 3) (j := 4) (vs := [3, 4]) (fun _ => true) (fun p => match p with | (.int x, .int y) => V.bl (decide (y ≤ x)) | _ => .non)
    (es_of (ev_var (i := 1) rfl) hs) (es_new s2) (by rw [List.length_map]; omega) (fun x y => rfl) (fun _ _ _ _ => et_yes) (fun p H1 e1 hp _ => by
      obtain ⟨x, y⟩ := p
      have hz := List.of_mem_zip hp
      obtain ⟨m, _, rfl⟩ := List.mem_map.mp hz.1
      obtain ⟨k, _, rfl⟩ := List.mem_map.mp hz.2
      exact ev_op (x := .int m) (y := .int k) (ev_var rfl) (ev_var rfl) rv_I0)
  have e : ((((ns.map V.int).zip ((ns.drop 1).map V.int)).filter fun _ => true).map (fun p => match p with | (.int x, .int y) => V.bl (decide (y ≤ x)) | _ => .non)) = ((ns.zip (ns.drop 1)).map fun p => decide (p.2 ≤ p.1)).map V.bl := by
    rw [filter_yes, List.zip_map, List.map_map, List.map_map]
    rfl
  rw [e] at w
  have z := ev_anyS (K := K) (es_new (K := K) w)
  rw [falls_eq] at z
  exact z
theorem rising_len {m : Int} : ∀ (cs : List Int) (lo : Int), Rising cs → (∀ x ∈ cs, lo ≤ x ∧ x < m) → (cs.length : Int) ≤ max 0 (m - lo)
  | [], _, _, _ => by simp; omega
  | x :: r, lo, h, hb => by
    have h1 := (List.pairwise_cons.mp h).1
    have ih := rising_len r (x + 1) (List.pairwise_cons.mp h).2 (fun y hy => ⟨by have := h1 y hy; omega, (hb y (List.mem_cons_of_mem _ hy)).2⟩)
    have hx := hb x List.mem_cons_self
    rw [List.length_cons]
    omega
theorem cok_len {h w : Nat} {cs : List Int} (gk : GOk h w) (c : COk h w cs) : cs.length ≤ 36 := by
  have := rising_len cs 0 c.2.2 c.2.1
  have := hw_le gk
  omega
theorem pure_check_cells {K : PySem.W.Frag} {C : Ad} {vs : List V} {H : Hp} {Q : VK} {E : XK} {D : Ends} (hD : D.nx = fun _ H' => Q .non H') (h : sp_check_cells K C vs H Q E) : t_check_cells K C E D (start ["grid", "cells", "many", "one", "other"] vs) H := by
  obtain ⟨g, h, w, v, rfl, hg, gk, hv⟩ := h
  change t_check_cells K C E D [some (.ref g), some v, none, none, none] H
  have hwl := hw_le gk
  have gb := gk
  obtain ⟨g1, g2, g3, g4⟩ := gb
  refine q_asg (v := .int ((h : Int) * w)) (by walk_at "ev") fun H1 e1 => ?_
  rcases hv with ⟨c, cs, rfl, hc, ck, q⟩ | ⟨hb, q⟩
  · have cl := cok_len gk ck
    have hc1 := ex_l e1 hc
    have kn : ∀ x ∈ cs.map V.int, ∃ n, Known K H1 x n := fun x hx => by
      obtain ⟨m, _, rfl⟩ := List.mem_map.mp hx
      exact ⟨_, known_int m⟩
    have a := all_cells (K := K) (H := H1) (y0 := some (.ref g)) (m := (h : Int) * w) hc1 (by rw [List.length_map]; omega) kn
    have ea : (cs.map V.int).all (inCells ((h : Int) * w)) = true := by
      rw [List.all_map]
      refine List.all_eq_true.mpr fun x hx => ?_
      have := ck.2.1 x hx
      simp only [Function.comp, inCells, Bool.and_eq_true, decide_eq_true_eq]
      exact this
    rw [ea] at a
    have en : PyData.eqv (dI cs) (.list []) = false := by
      unfold dI
      rw [eqv_nil]
      simp [ck.1]
    refine q_when (b := false) (et_is (et_or (b := false) (et_not (et_B (ev_isiList (ev_var rfl) ⟨ty_list hc1, by decide⟩))) (fun _ => et_is (et_or (et_test (ev_eqD (ed_ints (es_of (ev_var rfl) hc1)) ed_nil (shaped_ints cs) shaped_nil)) (fun _ => et_not (et_B a))) (by rw [en]; rfl))) (by simp)) (fun z => nomatch z) (fun _ H2 e2 => ?_)
    have f := any_falls (K := K) (H := H2) (ns := cs) (y0 := some (.ref g)) (y2 := some (.int ((h : Int) * w))) (ex_l e2 hc1) (by omega)
    rw [(falls_rising cs).mpr ck.2.2] at f
    refine s_when (et_B f) (fun z => nomatch z) (fun _ H3 e3 => ?_)
    rw [hD]
    exact q H3 ((e1.trans e2).trans e3)
  · have q1 : ∀ H2, Ex H1 H2 → E (.ref C.cBadCells) none H2 := fun H2 e2 => q H2 (e1.trans e2)
    rcases hb with ⟨n, hk, hn⟩ | ⟨a, xs, ds, rfl, hs, hd, hsh, hl, hb⟩
    · have e : (n == "list") = false := by simpa using hn
      refine q_when (b := true) (et_is (et_or (b := true) (et_not (et_B (ev_isiList (ev_var rfl) (hk.mono e1)))) (fun z => ?_)) (by rw [e]; rfl)) (fun _ H2 e2 => q1 H2 e2) (fun z => nomatch z)
      rw [e] at z
      cases z
    · have hs1 := ex_l e1 hs
      have hd1 := DpAll.mono e1 hd
      have kn : ∀ x ∈ xs, ∃ n, Known K H1 x n := fun x hx => by
        obtain ⟨d, hd⟩ := dpAll_mem hd1 x hx
        exact known_dp hd
      have a1 := all_cells (K := K) (H := H1) (y0 := some (.ref g)) (m := (h : Int) * w) hs1 hl kn
      have t := et_or (et_not (et_B (ev_isiList (K := K) (σ := [some (.ref g), some (.ref a), some (.int ((h : Int) * w)), none, none]) (H := H1) (ta := tVar 1) (ev_var rfl) ⟨ty_list hs1, by decide⟩))) (fun _ => et_or (et_test (ev_eqD (ed_of (ev_var (i := 1) rfl) (.lst hs1 hd1)) ed_nil hsh shaped_nil)) (fun _ => et_not (et_B a1)))
      refine q_when t (fun _ H2 e2 => q1 H2 e2) (fun z H2 e2 => ?_)
      rcases hb with hb | hb | ⟨ns, rfl, hr⟩
      · exfalso
        subst hb
        have : ds = [] := by
          have := dpAll_len hd
          cases ds with
          | nil => rfl
          | cons _ _ => simp at this
        subst this
        simp [PyData.eqv, PyData.eqvAll] at z
      · rw [hb] at z
        simp at z
      · rw [List.length_map] at hl
        have f := any_falls (K := K) (H := H2) (ns := ns) (y0 := some (.ref g)) (y2 := some (.int ((h : Int) * w))) (ex_l e2 hs1) hl
        have fr : falls ns = true := by
          cases hf : falls ns with
          | true => rfl
          | false => exact absurd ((falls_rising ns).mp hf) hr
        rw [fr] at f
        exact s_when (et_B f) (fun _ H3 e3 => q1 H3 (e2.trans e3)) (fun z => nomatch z)
theorem ev_check_cells {K : PySem.W.Frag} {C : Ad} {σ : L2.St} {H : Hp} {ta : TA} {E : XK} {g c : Addr} {h w : Nat} {cs : List Int} (ha : EvA ta σ H [.ref g, .ref c]) (hs : SqT K H g [.int (h : Int), .int (w : Int)]) (gk : GOk h w) (hc : SqL K H c (cs.map V.int)) (ck : COk h w cs) : Ev (tCall (sp_check_cells K C) [] E ta) σ H .non := fun H1 e Q q =>
  ha H1 e _ fun H2 e2 => ⟨g, h, w, _, rfl, ex_t (e.trans e2) hs, gk, .inl ⟨c, cs, rfl, ex_l (e.trans e2) hc, ck, fun H3 e3 => q H3 (e2.trans e3)⟩⟩

/-! ### new lists of new lists -/
def NewLL (H1 : Hp) (v : V) (H2 : Hp) (xss : List (List V)) : Prop := ∃ p ps, v = .ref p ∧ H1 p = none ∧ H2 p = some (.lst (ps.map V.ref)) ∧ Paired (fun (q : Addr) xs => H1 q = none ∧ H2 q = some (.lst xs)) ps xss
def ints2 (nss : List (List Int)) : List (List V) := nss.map fun ns => ns.map V.int
def dII (nss : List (List Int)) : PyData := .list (nss.map dI)
def RetP (R : Hp → V → Hp → Prop) (H : Hp) (Q : VK) : Prop := ∀ v H2, Ex H H2 → R H v H2 → Q v H2
theorem NewLL.back {H0 H1 H2 : Hp} {v : V} {xss : List (List V)} (e : Ex H0 H1) (h : NewLL H1 v H2 xss) : NewLL H0 v H2 xss := by
  obtain ⟨p, ps, rfl, hp, h2, hr⟩ := h
  exact ⟨p, ps, rfl, fresh_back e hp, h2, Paired.mapP hr fun q xs z => ⟨fresh_back e z.1, z.2⟩⟩
theorem NewLL.on {H1 H2 H3 : Hp} {v : V} {xss : List (List V)} (e : Ex H2 H3) (h : NewLL H1 v H2 xss) : NewLL H1 v H3 xss := by
  obtain ⟨p, ps, rfl, hp, h2, hr⟩ := h
  exact ⟨p, ps, rfl, hp, e _ _ h2, Paired.mapP hr fun q xs z => ⟨z.1, e _ _ z.2⟩⟩
theorem dpAll_rows {K : PySem.W.Frag} {H1 H2 : Hp} : ∀ {ps : List Addr} {nss : List (List Int)}, Paired (fun (q : Addr) xs => H1 q = none ∧ H2 q = some (.lst xs)) ps (ints2 nss) → DpAll K H2 (ps.map V.ref) (nss.map dI)
  | [], [], .nil => .nil
  | p :: ps, ns :: nss, .cons h hs => .cons (dp_ints (sq_of h.2)) (dpAll_rows hs)
theorem NewLL.dp {K : PySem.W.Frag} {H1 H2 : Hp} {v : V} {nss : List (List Int)} (h : NewLL H1 v H2 (ints2 nss)) : Dp K H2 v (dII nss) := by
  obtain ⟨p, ps, rfl, hp, h2, hr⟩ := h
  exact .lst (sq_of h2) (dpAll_rows hr)
section
variable {K : PySem.W.Frag} {σ : L2.St} {H H' : Hp} {te : TE} {t : TT}
theorem paired_snoc {α β : Type} {F : α → β → Prop} : ∀ {l : List α} {m : List β} {a : α} {b : β}, Paired F l m → F a b → Paired F (l ++ [a]) (m ++ [b])
  | [], [], _, _, .nil, h => .cons h .nil
  | _ :: _, _ :: _, _, _, .cons g gs, h => .cons g (paired_snoc gs h)
/-- [e for i in range(n)], e a new list -/
theorem ep_lcRL {ta : TA} {j : Nat} {vs : List Nat} {n : Nat} (g : Nat → List V) (h : EvA ta σ H [.int (n : Int)]) (hn : n ≤ 40000) (hw : ∀ x, wipe ((wipe σ vs).set j (some x)) vs = wipe σ vs)
    (he : ∀ (i : Nat) H1, Ex H H1 → i < n → EvL te ((wipe σ vs).set j (some (.int (i : Int)))) H1 (g i)) :
    EvP (tLc (iRng1 ta) (gName j) tYes te vs) σ H (fun H1 v H2 => NewLL H1 v H2 ((List.range n).map g)) := fun H0 e Q q => h H0 e _ fun H1 e1 => ⟨(n : Int), rfl, by omega, by omega, fun Dl hD => by
  have e0 : ((n : Int)).toNat = n := Int.toNat_natCast n
  rw [e0]
  refine lc_range (lo := 0) (n := n) (fun i H' => H1 Dl = none ∧ Ex H1 H' ∧ i ≤ n ∧ ∃ ps, H' Dl = some (.lst (ps.map V.ref)) ∧ ps.length = i ∧ Paired (fun (q : Addr) xs => (H1 q = none ∧ q ≠ Dl) ∧ H' q = some (.lst xs)) ps ((List.range i).map g)) ⟨hD, Ex.new hD, Nat.zero_le _, [], upd_same, rfl, .nil⟩ (fun i H' hi p => ?_) (fun H' p => ?_)
  · obtain ⟨p1, p2, _, ps, p3, pl, p4⟩ := p
    have z0 : (0 : Int) + (i : Int) = (i : Int) := Int.zero_add _
    show wipe ((wipe σ vs).set j (some (.int ((0 : Int) + (i : Int))))) vs = wipe σ vs ∧ te ((wipe σ vs).set j (some (.int ((0 : Int) + (i : Int))))) H' _
    rw [z0]
    refine ⟨hw _, he i H1 (e.trans e1) hi H' p2 _ fun p H4 hp e4 h4 => ?_⟩
    have ne : p ≠ Dl := (ne_of_none p3 hp).symm
    refine ⟨_, e4 _ _ p3, sz_lt (by rw [List.length_map]; omega), p1, Ex.mut (p2.trans e4) p1, hi, ps ++ [p], ?_, ?_, ?_⟩
    · rw [upd_same, List.map_append]; rfl
    · rw [List.length_append, pl]; rfl
    · rw [List.range_succ, List.map_append]
      refine paired_snoc (Paired.mapP p4 fun q xs z => ⟨z.1, ?_⟩) ⟨⟨fresh_back p2 hp, ne⟩, ?_⟩
      · rw [upd_ne z.1.2]; exact e4 _ _ z.2
      · rw [upd_ne ne]; exact h4
  · obtain ⟨p1, p2, _, ps, p3, _, p4⟩ := p
    exact q _ H' (e1.trans p2) ⟨Dl, ps, rfl, fresh_back e1 p1, p3, Paired.mapP p4 fun q xs z => ⟨fresh_back e1 z.1.1, z.2⟩⟩⟩
theorem s_retP {R : Hp → V → Hp → Prop} {D : Ends} (h : EvP te σ H R) (k : ∀ v H1, Ex H H1 → R H v H1 → D.rt v H1) : tRet te D σ H := h H (Ex.refl H) _ k
end
/-! ### beside -/
def sp_beside (K : PySem.W.Frag) : Sp := fun vs H Q _ => ∃ g h w x, vs = [.ref g, .int x] ∧ SqT K H g [.int ((h : Nat) : Int), .int ((w : Nat) : Int)] ∧ GOk h w ∧ RetL ((beside h w x).map V.int) H Q
theorem el_beside {K : PySem.W.Frag} {σ : L2.St} {H : Hp} {ta : TA} {E : XK} {g : Addr} {h w : Nat} {x : Int} (ha : EvA ta σ H [.ref g, .int x]) (hs : SqT K H g [.int (h : Int), .int (w : Int)]) (gk : GOk h w) : EvL (tCall (sp_beside K) [] E ta) σ H ((beside h w x).map V.int) := fun H1 e Q q =>
  ha H1 e _ fun H2 e2 => ⟨g, h, w, x, rfl, ex_t (e.trans e2) hs, gk, fun p H3 hp e3 h3 => q p H3 (fresh_back e2 hp) (e2.trans e3) h3⟩
def t_beside (K : PySem.W.Frag) : TS := (tSeq (tAsg (tVar 0) (gTup K 2 (gCons (gName 2) (gCons (gName 3) gNil))))
      (tSeq (tAsg (tLst tNil) (gName 4))
      (tSeq (tIfS (tTest (tOp oGe (tVar 1) (tVar 3))) (tDrop (tBM K "list" rAppend (tVar 4) (tCons (tOp oSub (tVar 1) (tVar 3)) tNil))) tNext)
      (tSeq (tIfS (tTest (tOp oGt (tOp oMod (tVar 1) (tVar 3)) (tC (.int 0)))) (tDrop (tBM K "list" rAppend (tVar 4) (tCons (tOp oSub (tVar 1) (tC (.int 1))) tNil))) tNext)
      (tSeq (tIfS (tTest (tOp oLt (tOp oMod (tVar 1) (tVar 3)) (tOp oSub (tVar 3) (tC (.int 1))))) (tDrop (tBM K "list" rAppend (tVar 4) (tCons (tOp oAdd (tVar 1) (tC (.int 1))) tNil))) tNext)
      (tSeq (tIfS (tTest (tOp oLt (tVar 1) (tOp oMul (tVar 3) (tOp oSub (tVar 2) (tC (.int 1)))))) (tDrop (tBM K "list" rAppend (tVar 4) (tCons (tOp oAdd (tVar 1) (tVar 3)) tNil))) tNext)
      (tRet (tVar 4))))))))
theorem pure_beside {K : PySem.W.Frag} {vs : List V} {H : Hp} {Q : VK} {E : XK} {D : Ends} (hD : D.rt = Q) (h : sp_beside K vs H Q E) : t_beside K D (start ["grid", "cell", "high", "wide", "found"] vs) H := by
  obtain ⟨g, h, w, x, rfl, hs, gk, q⟩ := h
  subst hD
  obtain ⟨g1, g2, g3, g4⟩ := gk
  change t_beside K D [some (.ref g), some (.int x), none, none, none] H
  refine q_unp (i := 2) (j := 3) (est_of (ev_var rfl) hs) fun H1 e1 => ?_
  refine q_asgL (i := 4) (el_lst ea_nil (by simp)) fun p H2 hp e2 h2 => ?_
  refine q_ifApp (v := .int (x - w)) (by walk_at "et") h2 (ev_var rfl) (fun _ => by walk_at "ev") (by simp) fun H3 k3 h3 => ?_
  refine q_ifApp (v := .int (x - 1)) (by walk_at "et") h3 (ev_var rfl) (fun _ => by walk_at "ev") (by simp only [List.length_append]; split <;> simp) fun H4 k4 h4 => ?_
  refine q_ifApp (v := .int (x + 1)) (by walk_at "et") h4 (ev_var rfl) (fun _ => by walk_at "ev") (by simp only [List.length_append]; split <;> split <;> simp) fun H5 k5 h5 => ?_
  refine q_ifApp (v := .int (x + w)) (by walk_at "et") h5 (ev_var rfl) (fun _ => by walk_at "ev") (by simp only [List.length_append]; split <;> split <;> split <;> simp) fun H6 k6 h6 => ?_
  refine s_ret (ev_var rfl) fun H7 e7 => q p H7 (fresh_back e1 hp) (fun c o ho => ?_) ?_
  · have ne : c ≠ p := ne_of_none (e1 _ _ ho) hp
    exact e7 _ _ (k6 c o ne (k5 c o ne (k4 c o ne (k3 c o ne (e2 _ _ (e1 _ _ ho))))))
  · rw [e7 _ _ h6]
    congr 2
    unfold beside besideA besideB besideC besideD
    simp only [List.map_append, decide_eq_true_eq, List.nil_append]
    congr 1
    · congr 1
      · congr 1
        · split <;> rfl
        · split <;> rfl
      · split <;> rfl
    · split <;> rfl
/-! ### sides_of -/
def sp_sides_of (K : PySem.W.Frag) : Sp := fun vs H Q _ => ∃ g c h w x cs, vs = [.ref g, .ref c, .int x] ∧ SqT K H g [.int ((h : Nat) : Int), .int ((w : Nat) : Int)] ∧ GOk h w ∧ SqL K H c ((cs : List Int).map V.int) ∧ RetV (.int (sidesOf h w cs x)) H Q
theorem ev_sides_of {K : PySem.W.Frag} {σ : L2.St} {H : Hp} {ta : TA} {E : XK} {g c : Addr} {h w : Nat} {x : Int} {cs : List Int} (ha : EvA ta σ H [.ref g, .ref c, .int x]) (hs : SqT K H g [.int (h : Int), .int (w : Int)]) (gk : GOk h w) (hc : SqL K H c (cs.map V.int)) : Ev (tCall (sp_sides_of K) [] E ta) σ H (.int (sidesOf h w cs x)) := fun H1 e Q q =>
  ha H1 e _ fun H2 e2 => ⟨g, c, h, w, x, cs, rfl, ex_t (e.trans e2) hs, gk, ex_l (e.trans e2) hc, fun H3 e3 => q H3 (e2.trans e3)⟩
def t_sides_of (K : PySem.W.Frag) : TS := (tSeq (tAsg (tCB (rLenS K) (tCons (tLc (iList K (tCall (sp_beside K) [] E0 (tCons (tVar 0) (tCons (tVar 2) tNil)))) (gName 4) (tTest (tOp (rIn K false) (tVar 4) (tVar 1))) (tVar 4) [4]) tNil)) (gName 3))
      (tRet (tIf (tTest (tOp (rIn K false) (tVar 2) (tVar 1))) (tOp oSub (tC (.int 4)) (tVar 3)) (tVar 3))))
theorem pure_sides_of {K : PySem.W.Frag} {vs : List V} {H : Hp} {Q : VK} {E : XK} {D : Ends} (hD : D.rt = Q) (h : sp_sides_of K vs H Q E) : t_sides_of K D (start ["grid", "cells", "cell", "near", "one"] vs) H := by
  obtain ⟨g, c, h, w, x, cs, rfl, hs, gk, hc, q⟩ := h
  subst hD
  change t_sides_of K D [some (.ref g), some (.ref c), some (.int x), none, none] H
  have b := el_beside (E := E0) (K := K) (σ := [some (.ref g), some (.ref c), some (.int x), none, none]) (ta := tCons (tVar 0) (tCons (tVar 2) tNil)) (ea_cons (ev_var rfl) (ea_cons (ev_var rfl) ea_nil)) hs gk
  have l := el_lcI (K := K) (t := tTest (tOp (rIn K false) (tVar 4) (tVar 1))) (te := tVar 4) (j := 4) (vs := [4]) (fun o => decide (o ∈ cs)) V.int (es_new b) (by have := beside_len h w x; omega) (fun x => rfl)
    (fun n H1 e1 hn => et_test (ev_isIn (ev_var rfl) (es_of (ev_var rfl) (ex_l e1 hc)))) (fun n H1 e1 hn _ => ev_var rfl)
  refine q_asg (ev_lenN l) fun H1 e1 => ?_
  rw [List.length_map]
  have hc1 := ex_l e1 hc
  refine s_ret (v := .int (sidesOf h w cs x)) (ev_if (b := decide (x ∈ cs)) (by walk_at "et") (fun hb => ?_) (fun hb => ?_)) fun H2 e2 => q H2 (e1.trans e2)
  · have : sidesOf h w cs x = 4 - (near h w cs x : Int) := if_pos (of_decide_eq_true hb)
    rw [this]
    exact ev_op ev_c (ev_var rfl) rv_I0
  · have : sidesOf h w cs x = (near h w cs x : Int) := if_neg (of_decide_eq_false hb)
    rw [this]
    exact ev_var rfl
/-! ### numbers_of -/
def sp_numbers_of (K : PySem.W.Frag) : Sp := fun vs H Q _ => ∃ g c h w cs, vs = [.ref g, .ref c] ∧ SqT K H g [.int ((h : Nat) : Int), .int ((w : Nat) : Int)] ∧ GOk h w ∧ SqL K H c ((cs : List Int).map V.int) ∧ RetP (fun H1 v H2 => NewLL H1 v H2 (ints2 (numbersOf h w cs))) H Q
theorem ep_numbers_of {K : PySem.W.Frag} {σ : L2.St} {H : Hp} {ta : TA} {E : XK} {g c : Addr} {h w : Nat} {cs : List Int} (ha : EvA ta σ H [.ref g, .ref c]) (hs : SqT K H g [.int (h : Int), .int (w : Int)]) (gk : GOk h w) (hc : SqL K H c (cs.map V.int)) :
    EvP (tCall (sp_numbers_of K) [] E ta) σ H (fun H1 v H2 => NewLL H1 v H2 (ints2 (numbersOf h w cs))) := fun H1 e Q q =>
  ha H1 e _ fun H2 e2 => ⟨g, c, h, w, cs, rfl, ex_t (e.trans e2) hs, gk, ex_l (e.trans e2) hc, fun v H3 e3 z => q v H3 (e2.trans e3) (z.back e2)⟩
def t_numbers_of (K : PySem.W.Frag) : TS := (tSeq (tAsg (tVar 0) (gTup K 2 (gCons (gName 2) (gCons (gName 3) gNil))))
      (tRet (tLc (iRng1 (tCons (tVar 2) tNil)) (gName 4) tYes (tLc (iRng1 (tCons (tVar 3) tNil)) (gName 5) tYes (tCall (sp_sides_of K) [] E0 (tCons (tVar 0) (tCons (tVar 1) (tCons (tOp oAdd (tOp oMul (tVar 4) (tVar 3)) (tVar 5)) tNil)))) [5]) [4])))
theorem pure_numbers_of {K : PySem.W.Frag} {vs : List V} {H : Hp} {Q : VK} {E : XK} {D : Ends} (hD : D.rt = Q) (h : sp_numbers_of K vs H Q E) : t_numbers_of K D (start ["grid", "cells", "high", "wide", "row", "at"] vs) H := by
  obtain ⟨g, c, h, w, cs, rfl, hs, gk, hc, q⟩ := h
  subst hD
  change t_numbers_of K D [some (.ref g), some (.ref c), none, none, none, none] H
  have gb := gk
  obtain ⟨g1, g2, g3, g4⟩ := gb
  refine q_unp (i := 2) (j := 3) (est_of (ev_var rfl) hs) fun H1 e1 => ?_
  have k := ep_lcRL (σ := [some (.ref g), some (.ref c), some (.int (h : Int)), some (.int (w : Int)), none, none]) (H := H1) (j := 4) (vs := [4]) (n := h) (ta := tCons (tVar 2) tNil)
    (te := tLc (iRng1 (tCons (tVar 3) tNil)) (gName 5) tYes (tCall (sp_sides_of K) [] E0 (tCons (tVar 0) (tCons (tVar 1) (tCons (tOp oAdd (tOp oMul (tVar 4) (tVar 3)) (tVar 5)) tNil)))) [5])
    (fun i => ((List.range w).map fun (a : Nat) => sidesOf h w cs ((i : Int) * w + (a : Int))).map V.int) (ea_cons (ev_var rfl) ea_nil) (by omega) (fun x => rfl) (fun i H2 e2 hi => by
      have l := el_lcR (σ := [some (.ref g), some (.ref c), some (.int (h : Int)), some (.int (w : Int)), some (.int (i : Int)), none]) (H := H2) (t := tYes) (te := tCall (sp_sides_of K) [] E0 (tCons (tVar 0) (tCons (tVar 1) (tCons (tOp oAdd (tOp oMul (tVar 4) (tVar 3)) (tVar 5)) tNil)))) (j := 5) (vs := [5]) (n := w) (ta := tCons (tVar 3) tNil)
        (fun _ => true) (fun a => V.int (sidesOf h w cs ((i : Int) * w + (a : Int)))) (ea_cons (ev_var rfl) ea_nil) (by omega) (fun x => rfl) (fun _ _ _ _ => et_yes) (fun a H3 e3 ha _ =>
          ev_sides_of (ea_cons (ev_var rfl) (ea_cons (ev_var rfl) (ea_cons (by walk_at "ev") ea_nil))) (ex_t ((e1.trans e2).trans e3) hs) gk (ex_l ((e1.trans e2).trans e3) hc))
      rw [filter_yes] at l
      rw [List.map_map]
      exact l)
  refine s_retP k fun v H2 e2 z => q v H2 (e1.trans e2) (z.back e1 |> fun z => ?_)
  unfold ints2 numbersOf
  rw [List.map_map]
  exact z
/-! ### numbers -/
def sp_numbers (K : PySem.W.Frag) (C : Ad) : Sp := fun vs H Q E => ∃ v u, vs = [v, u] ∧
  ((BadG K H v ∧ RetE C.cBadGrid H E) ∨
   (∃ g h w, v = .ref g ∧ SqT K H g [.int ((h : Nat) : Int), .int ((w : Nat) : Int)] ∧ GOk h w ∧ ((BadC K H ((h : Int) * w) u ∧ RetE C.cBadCells H E) ∨
     ∃ c cs, u = .ref c ∧ SqL K H c (cs.map V.int) ∧ COk h w cs ∧ RetP (fun H1 v H2 => NewLL H1 v H2 (ints2 (numbersOf h w cs))) H Q)))
theorem ep_numbers {K : PySem.W.Frag} {C : Ad} {σ : L2.St} {H : Hp} {ta : TA} {E : XK} {g c : Addr} {h w : Nat} {cs : List Int} (ha : EvA ta σ H [.ref g, .ref c]) (hs : SqT K H g [.int (h : Int), .int (w : Int)]) (gk : GOk h w) (hc : SqL K H c (cs.map V.int)) (ck : COk h w cs) :
    EvP (tCall (sp_numbers K C) [] E ta) σ H (fun H1 v H2 => NewLL H1 v H2 (ints2 (numbersOf h w cs))) := fun H1 e Q q =>
  ha H1 e _ fun H2 e2 => ⟨_, _, rfl, .inr ⟨g, h, w, rfl, ex_t (e.trans e2) hs, gk, .inr ⟨c, cs, rfl, ex_l (e.trans e2) hc, ck, fun v H3 e3 z => q v H3 (e2.trans e3) (z.back e2)⟩⟩⟩
def t_numbers (K : PySem.W.Frag) (C : Ad) (E : XK) : TS := (tSeq (tDrop (tCall (sp_check_grid K C) [] E (tCons (tVar 0) tNil)))
      (tSeq (tDrop (tCall (sp_check_cells K C) [] E (tCons (tVar 0) (tCons (tVar 1) tNil))))
      (tRet (tCall (sp_numbers_of K) [] E0 (tCons (tVar 0) (tCons (tVar 1) tNil))))))
theorem pure_numbers {K : PySem.W.Frag} {C : Ad} {vs : List V} {H : Hp} {Q : VK} {E : XK} {D : Ends} (hD : D.rt = Q) (h : sp_numbers K C vs H Q E) : t_numbers K C E D (start ["grid", "cells"] vs) H := by
  obtain ⟨v, u, rfl, h⟩ := h
  subst hD
  change t_numbers K C E D [some v, some u] H
  rcases h with ⟨hb, q⟩ | ⟨g, h, w, rfl, hs, gk, h⟩
  · exact ⟨v, rfl, v, rfl, .inr ⟨hb, q⟩⟩
  · refine q_drop (ev_check_grid (ea_cons (ev_var rfl) ea_nil) hs gk) fun H1 e1 => ?_
    rcases h with ⟨hb, q⟩ | ⟨c, cs, rfl, hc, ck, q⟩
    · refine ⟨_, rfl, u, rfl, g, h, w, u, rfl, ex_t e1 hs, gk, .inr ⟨?_, fun H2 e2 => q H2 (e1.trans e2)⟩⟩
      rcases hb with ⟨n, hk, hn⟩ | ⟨a, xs, ds, rfl, h1, h2, h3⟩
      · exact .inl ⟨n, hk.mono e1, hn⟩
      · exact .inr ⟨a, xs, ds, rfl, ex_l e1 h1, DpAll.mono e1 h2, h3⟩
    · refine q_drop (ev_check_cells (ea_cons (ev_var rfl) (ea_cons (ev_var rfl) ea_nil)) (ex_t e1 hs) gk (ex_l e1 hc) ck) fun H2 e2 => ?_
      refine s_retP (ep_numbers_of (ea_cons (ev_var rfl) (ea_cons (ev_var rfl) ea_nil)) (ex_t (e1.trans e2) hs) gk (ex_l (e1.trans e2) hc)) fun v H3 e3 z => q v H3 ((e1.trans e2).trans e3) (z.back (e1.trans e2))

/-! ### spread -/
def sp_spread (K : PySem.W.Frag) : Sp := fun vs H Q _ => ∃ g c h w x cs, vs = [.ref g, .int x, .ref c] ∧ SqT K H g [.int ((h : Nat) : Int), .int ((w : Nat) : Int)] ∧ GOk h w ∧ SqL K H c ((cs : List Int).map V.int) ∧ cs.length ≤ 1000 ∧ RetL ((spread h w x cs).map V.int) H Q
theorem el_spread {K : PySem.W.Frag} {σ : L2.St} {H : Hp} {ta : TA} {E : XK} {g c : Addr} {h w : Nat} {x : Int} {cs : List Int} (ha : EvA ta σ H [.ref g, .int x, .ref c]) (hs : SqT K H g [.int (h : Int), .int (w : Int)]) (gk : GOk h w) (hc : SqL K H c (cs.map V.int)) (hl : cs.length ≤ 1000) : EvL (tCall (sp_spread K) [] E ta) σ H ((spread h w x cs).map V.int) := fun H1 e Q q =>
  ha H1 e _ fun H2 e2 => ⟨g, c, h, w, x, cs, rfl, ex_t (e.trans e2) hs, gk, ex_l (e.trans e2) hc, hl, fun p H3 hp e3 h3 => q p H3 (fresh_back e2 hp) (e2.trans e3) h3⟩
def t_spread (K : PySem.W.Frag) : TS := (tSeq (tAsg (tTup (tCons (tLst (tCons (tVar 1) tNil)) (tCons (tC (.int 0)) tNil))) (gTup K 2 (gCons (gName 3) (gCons (gName 4) gNil))))
      (tSeq (tWhile (tTest (tOp oLt (tVar 4) (tCB (rLenS K) (tCons (tVar 3) tNil)))) (tSeq (tDrop (tBM K "list" rExtend (tVar 3) (tCons (tLc (iList K (tCall (sp_beside K) [] E0 (tCons (tVar 0) (tCons (tOp (rIxL K) (tVar 3) (tVar 4)) tNil)))) (gName 5) (tAnd (tTest (tOp (rIn K false) (tVar 5) (tVar 2))) (tTest (tOp (rIn K true) (tVar 5) (tVar 3)))) (tVar 5) [5]) tNil)))
      (tAug 4 (tC (.int 1)) (ipI fun i j => i + j))))
      (tRet (tVar 3))))
theorem pure_spread {K : PySem.W.Frag} {vs : List V} {H : Hp} {Q : VK} {E : XK} {D : Ends} (hD : D.rt = Q) (h : sp_spread K vs H Q E) : t_spread K D (start ["grid", "first", "some", "found", "at", "one"] vs) H := by
  obtain ⟨g, c, h, w, x, cs, rfl, hs, gk, hc, hl, q⟩ := h
  subst hD
  change t_spread K D [some (.ref g), some (.int x), some (.ref c), none, none, none] H
  refine q_tupLV (i := 3) (j := 4) (xs := [x].map V.int) (y := .int 0) (el_lst (ea_cons (ev_var rfl) ea_nil) (by simp)) ev_c fun p H1 hp e1 h1 => ?_
  refine q_while (fun m σ' H' => ∃ (f : List Int) (a : Nat), σ' = [some (.ref g), some (.int x), some (.ref c), some (.ref p), some (.int (a : Int)), none] ∧ Ex H H' ∧ H' p = some (.lst (f.map V.int)) ∧ f.Nodup ∧ (∀ o ∈ f, o ∈ x :: cs) ∧ m + a = cs.length + 2 ∧ spreadGo h w cs m f a = spread h w x cs)
    (cs.length + 2) ⟨[x], 0, rfl, e1, h1, by simp, by simp, by omega, rfl⟩ fun m σ' H' hW => ?_
  obtain ⟨f, a, rfl, e2, h2, fn, fs, hm, hg⟩ := hW
  have fl : f.length ≤ cs.length + 1 := nodup_sub (m := x :: cs) fn fs
  have lm : (f.map V.int).length = f.length := List.length_map ..
  refine ⟨decide ((a : Int) < (f.length : Int)), et_test (ev_op (x := .int (a : Int)) (y := .int (f.length : Int)) (ev_var rfl) (ev_is (ev_lenS (K := K) (es_of (ev_var rfl) (sq_of h2))) (by rw [lm])) rv_I0), fun hb H3 e3 => ?_, fun hb H3 e3 => ?_⟩
  · have ha : a < f.length := by have := of_decide_eq_true hb; omega
    cases m with
    | zero => omega
    | succ m =>
      have hfa : f[a]? = some f[a] := List.getElem?_eq_getElem ha
      unfold spreadGo at hg
      rw [hfa] at hg
      dsimp only at hg
      have st := spread_step (h := h) (w := w) gk.2.2.1 (x := f[a]) fn fs
      have gl := nodup_sub (m := x :: cs) st.1 st.2
      refine ⟨fun σ2 H2 => ∃ (f : List Int) (a : Nat), σ2 = [some (.ref g), some (.int x), some (.ref c), some (.ref p), some (.int (a : Int)), none] ∧ Ex H H2 ∧ H2 p = some (.lst (f.map V.int)) ∧ f.Nodup ∧ (∀ o ∈ f, o ∈ x :: cs) ∧ m + a = cs.length + 2 ∧ spreadGo h w cs m f a = spread h w x cs, fun σ2 H2 z => ⟨m, by omega, z⟩, ?_⟩
      have h3 := e3 _ _ h2
      have hs3 := ex_t (e2.trans e3) hs
      have hc3 := ex_l (e2.trans e3) hc
      have it : Ev (tOp (rIxL K) (tVar 3) (tVar 4)) [some (.ref g), some (.int x), some (.ref c), some (.ref p), some (.int (a : Int)), none] H3 (.int f[a]) := by
        refine ev_ixS (i := (a : Int)) (es_of (ev_var rfl) (sq_of h3)) (ev_var rfl) (atI_nat ?_)
        rw [List.getElem?_map, hfa]
        rfl
      have b := el_beside (E := E0) (K := K) (ta := tCons (tVar 0) (tCons (tOp (rIxL K) (tVar 3) (tVar 4)) tNil)) (ea_cons (ev_var rfl) (ea_cons it ea_nil)) hs3 gk
      have l := el_lcI (K := K) (t := tAnd (tTest (tOp (rIn K false) (tVar 5) (tVar 2))) (tTest (tOp (rIn K true) (tVar 5) (tVar 3)))) (te := tVar 5) (j := 5) (vs := [5]) (fun o => decide (o ∈ cs) && !decide (o ∈ f)) V.int (es_new b) (by have := beside_len h w f[a]; omega) (fun x => rfl)
        (fun n H4 e4 hn => et_and (et_test (ev_isIn (ev_var rfl) (es_of (ev_var rfl) (ex_l e4 hc3)))) (fun _ => et_test (ev_notIn (ev_var rfl) (es_of (ev_var rfl) (sq_of (e4 _ _ h3)))))) (fun n H4 e4 hn _ => ev_var rfl)
      refine q_extL (K := K) h3 (ev_var rfl) l (by rw [lm, List.length_map]; rw [List.length_append] at gl; simp only [List.length_cons] at gl; omega) fun H4 e4 => ?_
      refine s_aug (a := (a : Int)) (b := 1) rfl ev_c fun H5 e5 => ⟨_, a + 1, ?_, ?_, e5 _ _ upd_same |>.trans ?_, st.1, st.2, by omega, hg⟩
      · show [some (V.ref g), some (V.int x), some (V.ref c), some (V.ref p), some (V.int ((a : Int) + 1)), none] = _
        rfl
      · exact (Ex.mut ((e2.trans e3).trans e4) hp).trans e5
      · rw [List.map_append]
  · have ha : ¬ a < f.length := by have := of_decide_eq_false hb; omega
    have e : spread h w x cs = f := by
      rw [← hg]
      cases m with
      | zero => rfl
      | succ m =>
        unfold spreadGo
        rw [List.getElem?_eq_none (by omega)]
    refine s_ret (ev_var rfl) fun H4 e4 => q p H4 hp ((e2.trans e3).trans e4) ?_
    rw [e]
    exact e4 _ _ (e3 _ _ h2)
/-! ### is_inner -/
def sp_is_inner (K : PySem.W.Frag) : Sp := fun vs H Q _ => ∃ g c h w x cs, vs = [.ref g, .ref c, .int x] ∧ SqT K H g [.int ((h : Nat) : Int), .int ((w : Nat) : Int)] ∧ GOk h w ∧ SqL K H c ((cs : List Int).map V.int) ∧ RetV (.bl (isInner h w cs x)) H Q
theorem ev_is_inner {K : PySem.W.Frag} {σ : L2.St} {H : Hp} {ta : TA} {E : XK} {g c : Addr} {h w : Nat} {x : Int} {cs : List Int} (ha : EvA ta σ H [.ref g, .ref c, .int x]) (hs : SqT K H g [.int (h : Int), .int (w : Int)]) (gk : GOk h w) (hc : SqL K H c (cs.map V.int)) : Ev (tCall (sp_is_inner K) [] E ta) σ H (.bl (isInner h w cs x)) := fun H1 e Q q =>
  ha H1 e _ fun H2 e2 => ⟨g, c, h, w, x, cs, rfl, ex_t (e.trans e2) hs, gk, ex_l (e.trans e2) hc, fun H3 e3 => q H3 (e2.trans e3)⟩
def t_is_inner (K : PySem.W.Frag) : TS := (tSeq (tAsg (tVar 0) (gTup K 2 (gCons (gName 3) (gCons (gName 4) gNil))))
      (tSeq (tAsg (tLc (iRng1 (tCons (tOp oMul (tVar 3) (tVar 4)) tNil)) (gName 6) (tTest (tOp (rIn K true) (tVar 6) (tVar 1))) (tVar 6) [6]) (gName 5))
      (tSeq (tFor (iList K (tCall (sp_spread K) [] E0 (tCons (tVar 0) (tCons (tVar 2) (tCons (tVar 5) tNil))))) (gName 6) (tIfS (tOr (tTest (tOp oLt (tVar 6) (tVar 4))) (tOr (tTest (tOp oGe (tVar 6) (tOp oMul (tVar 4) (tOp oSub (tVar 3) (tC (.int 1)))))) (tTest (tOp (rIn K false) (tOp oMod (tVar 6) (tVar 4)) (tTup (tCons (tC (.int 0)) (tCons (tOp oSub (tVar 4) (tC (.int 1))) tNil))))))) (tRet (tC (.bl false))) tNext))
      (tRet (tC (.bl true))))))
theorem pure_is_inner {K : PySem.W.Frag} {vs : List V} {H : Hp} {Q : VK} {E : XK} {D : Ends} (hD : D.rt = Q) (h : sp_is_inner K vs H Q E) : t_is_inner K D (start ["grid", "cells", "cell", "high", "wide", "rest", "one"] vs) H := by
  obtain ⟨g, c, h, w, x, cs, rfl, hs, gk, hc, q⟩ := h
  subst hD
  change t_is_inner K D [some (.ref g), some (.ref c), some (.int x), none, none, none, none] H
  have gb := gk
  obtain ⟨g1, g2, g3, g4⟩ := gb
  have hwl := hw_le gk
  have cast : ((h * w : Nat) : Int) = (h : Int) * w := Int.natCast_mul h w
  refine q_unp (i := 3) (j := 4) (est_of (ev_var rfl) hs) fun H1 e1 => ?_
  have hc1 := ex_l e1 hc
  have hs1 := ex_t e1 hs
  have l := el_lcR (σ := [some (.ref g), some (.ref c), some (.int x), some (.int (h : Int)), some (.int (w : Int)), none, none]) (H := H1) (t := tTest (tOp (rIn K true) (tVar 6) (tVar 1))) (te := tVar 6) (j := 6) (vs := [6]) (n := h * w) (ta := tCons (tOp oMul (tVar 3) (tVar 4)) tNil)
    (fun i => !decide ((i : Int) ∈ cs)) (fun i => V.int (i : Int)) (ea_cons (by rw [cast]; walk_at "ev") ea_nil) (by omega) (fun x => rfl) (fun i H2 e2 hi => et_test (ev_notIn (ev_var rfl) (es_of (ev_var rfl) (ex_l e2 hc1)))) (fun i H2 e2 hi _ => ev_var rfl)
  have le : (((List.range (h * w)).filter fun (i : Nat) => !decide ((i : Int) ∈ cs)).map fun (i : Nat) => V.int (i : Int)) = (restOf h w cs).map V.int := by
    unfold restOf
    rw [List.map_map]
    rfl
  rw [le] at l
  refine q_asgL (i := 5) l fun r H2 hr e2 h2 => ?_
  have rl := restOf_len h w cs
  have hs2 := ex_t e2 hs1
  have sp := el_spread (E := E0) (K := K) (σ := [some (.ref g), some (.ref c), some (.int x), some (.int (h : Int)), some (.int (w : Int)), some (.ref r), none]) (H := H2) (ta := tCons (tVar 0) (tCons (tVar 2) (tCons (tVar 5) tNil))) (ea_cons (ev_var rfl) (ea_cons (ev_var rfl) (ea_cons (ev_var rfl) ea_nil))) hs2 gk (sq_of h2) (by omega)
  have isI : isInner h w cs x = (spread h w x (restOf h w cs)).all fun o => !onEdge h w o := rfl
  generalize spread h w x (restOf h w cs) = fs at *
  refine q_forNLn (K := K) (j := 6) sp (fun p n σ' H' => ∃ y6, σ' = [some (.ref g), some (.ref c), some (.int x), some (.int (h : Int)), some (.int (w : Int)), some (.ref r), y6] ∧ Ex H2 H' ∧ H' p = some (.lst (fs.map V.int)) ∧ ∀ o ∈ fs.take n, onEdge h w o = false)
    (fun p H3 hp e3 h3 => ⟨_, rfl, e3, h3, by simp⟩) (fun p n σ' H' _ hP => by obtain ⟨_, _, _, h3, _⟩ := hP; exact sq_of h3) (fun p n v σ' H3 hv hP => ?_) (fun p σ' H3 hP => ?_)
  · obtain ⟨y6, rfl, e3, h3, hk⟩ := hP
    rw [List.getElem?_map] at hv
    obtain ⟨o, ho, rfl⟩ := Option.map_eq_some_iff.mp hv
    have hs3 := ex_t e3 hs2
    refine s_when (b := onEdge h w o) ?_ (fun hb H4 e4 => ?_) (fun hb H4 e4 => ⟨_, rfl, e3.trans e4, e4 _ _ h3, fun o' ho' => ?_⟩)
    · refine et_or (et_test (ev_op (x := .int o) (y := .int (w : Int)) (ev_var rfl) (ev_var rfl) rv_I0)) (fun _ => et_or (et_test (ev_op (x := .int o) (y := .int ((w : Int) * ((h : Int) - 1))) (ev_var rfl) (by walk_at "ev") rv_I0)) (fun _ => et_test ?_))
      exact ev_inT2 (ev_op (x := .int o) (y := .int (w : Int)) (ev_var rfl) (ev_var rfl) (rv_I (by show (0 : Int) < _; omega))) (est_new (eu_tup (by walk_at "ea") (by simp)))
    · refine s_ret ev_c fun H5 e5 => ?_
      have : isInner h w cs x = false := by
        rw [isI, List.all_eq_false]
        exact ⟨o, List.mem_of_getElem? ho, by simp [hb]⟩
      rw [this] at q
      exact q H5 ((((e1.trans e2).trans e3).trans e4).trans e5)
    · rw [take_snoc ho] at ho'
      rcases List.mem_append.mp ho' with z | z
      · exact hk o' z
      · have : o' = o := by simpa using z
        rw [this]
        exact hb
  · obtain ⟨y6, rfl, e3, h3, hk⟩ := hP
    rw [List.length_map, List.take_length] at hk
    refine s_ret ev_c fun H4 e4 => ?_
    have : isInner h w cs x = true := by
      rw [isI, List.all_eq_true]
      intro o ho
      simp [hk o ho]
    rw [this] at q
    exact q H4 (((e1.trans e2).trans e3).trans e4)
/-! ### first_inner -/
def optV : Option Nat → V
  | none => .non
  | some n => .int (n : Int)
def sp_first_inner (K : PySem.W.Frag) : Sp := fun vs H Q _ => ∃ g c h w cs, vs = [.ref g, .ref c] ∧ SqT K H g [.int ((h : Nat) : Int), .int ((w : Nat) : Int)] ∧ GOk h w ∧ SqL K H c ((cs : List Int).map V.int) ∧ RetV (optV (firstInner h w cs)) H Q
theorem ev_first_inner {K : PySem.W.Frag} {σ : L2.St} {H : Hp} {ta : TA} {E : XK} {g c : Addr} {h w : Nat} {cs : List Int} (ha : EvA ta σ H [.ref g, .ref c]) (hs : SqT K H g [.int (h : Int), .int (w : Int)]) (gk : GOk h w) (hc : SqL K H c (cs.map V.int)) : Ev (tCall (sp_first_inner K) [] E ta) σ H (optV (firstInner h w cs)) := fun H1 e Q q =>
  ha H1 e _ fun H2 e2 => ⟨g, c, h, w, cs, rfl, ex_t (e.trans e2) hs, gk, ex_l (e.trans e2) hc, fun H3 e3 => q H3 (e2.trans e3)⟩
def t_first_inner (K : PySem.W.Frag) : TS := (tSeq (tFor (iRng1 (tCons (tOp oMul (tOp (rIxT K) (tVar 0) (tC (.int 0))) (tOp (rIxT K) (tVar 0) (tC (.int 1)))) tNil)) (gName 2) (tIfS (tAnd (tTest (tOp (rIn K true) (tVar 2) (tVar 1))) (tB (tCall (sp_is_inner K) [] E0 (tCons (tVar 0) (tCons (tVar 1) (tCons (tVar 2) tNil)))))) (tRet (tVar 2)) tNext))
      (tRet (tC .non)))
theorem find_range_some {f : Nat → Bool} {n i : Nat} (hi : i < n) (hf : f i = true) (hb : ∀ j < i, f j = false) : (List.range n).find? f = some i := by
  rw [List.find?_range_eq_some]
  exact ⟨hf, by simpa using hi, fun j hj => by simp [hb j hj]⟩
theorem find_range_none {f : Nat → Bool} {n : Nat} (hb : ∀ j < n, f j = false) : (List.range n).find? f = none := by
  rw [List.find?_eq_none]
  intro x hx
  simp [hb x (List.mem_range.mp hx)]
theorem pure_first_inner {K : PySem.W.Frag} {vs : List V} {H : Hp} {Q : VK} {E : XK} {D : Ends} (hD : D.rt = Q) (h : sp_first_inner K vs H Q E) : t_first_inner K D (start ["grid", "cells", "cell"] vs) H := by
  obtain ⟨g, c, h, w, cs, rfl, hs, gk, hc, q⟩ := h
  subst hD
  change t_first_inner K D [some (.ref g), some (.ref c), none] H
  have gb := gk
  obtain ⟨g1, g2, g3, g4⟩ := gb
  have hwl := hw_le gk
  have cast : ((h * w : Nat) : Int) = (h : Int) * w := Int.natCast_mul h w
  have hm : ((h : Int) * w).toNat = h * w := by rw [← cast]; exact Int.toNat_natCast _
  refine q_forR1 (j := 2) (n := (h : Int) * w) (ea_cons (by walk_at "ev") ea_nil) ⟨by omega, by omega⟩ (fun i σ' H' => ∃ y2, σ' = [some (.ref g), some (.ref c), y2] ∧ Ex H H' ∧ ∀ j < i, (!decide ((j : Int) ∈ cs) && isInner h w cs (j : Int)) = false)
    (fun H1 e1 => ⟨_, rfl, e1, fun j hj => absurd hj (Nat.not_lt_zero j)⟩) (fun i σ' H1 hi hP => ?_) (fun σ' H1 hP => ?_)
  · obtain ⟨y2, rfl, e1, hk⟩ := hP
    have hc1 := ex_l e1 hc
    have hs1 := ex_t e1 hs
    refine s_when (b := !decide ((i : Int) ∈ cs) && isInner h w cs (i : Int)) (et_and (et_test (ev_notIn (ev_var rfl) (es_of (ev_var rfl) hc1))) (fun _ => et_B (ev_is_inner (ea_cons (ev_var rfl) (ea_cons (ev_var rfl) (ea_cons (ev_var rfl) ea_nil))) hs1 gk hc1))) (fun hb H2 e2 => ?_) (fun hb H2 e2 => ⟨_, rfl, e1.trans e2, fun j hj => ?_⟩)
    · refine s_ret (ev_var rfl) fun H3 e3 => ?_
      have : firstInner h w cs = some i := find_range_some (by omega) hb hk
      rw [this] at q
      exact q H3 ((e1.trans e2).trans e3)
    · by_cases hji : j < i
      · exact hk j hji
      · have : j = i := by omega
        rw [this]
        exact hb
  · obtain ⟨y2, rfl, e1, hk⟩ := hP
    rw [hm] at hk
    refine s_ret ev_c fun H2 e2 => ?_
    have : firstInner h w cs = none := find_range_none hk
    rw [this] at q
    exact q H2 (e1.trans e2)
/-! ### is_ring -/
def sp_is_ring (K : PySem.W.Frag) : Sp := fun vs H Q _ => ∃ g c h w cs, vs = [.ref g, .ref c] ∧ SqT K H g [.int ((h : Nat) : Int), .int ((w : Nat) : Int)] ∧ GOk h w ∧ SqL K H c ((cs : List Int).map V.int) ∧ cs ≠ [] ∧ cs.length ≤ 1000 ∧ RetV (.bl (isRing h w cs)) H Q
theorem ev_is_ring {K : PySem.W.Frag} {σ : L2.St} {H : Hp} {ta : TA} {E : XK} {g c : Addr} {h w : Nat} {cs : List Int} (ha : EvA ta σ H [.ref g, .ref c]) (hs : SqT K H g [.int (h : Int), .int (w : Int)]) (gk : GOk h w) (hc : SqL K H c (cs.map V.int)) (hn : cs ≠ []) (hl : cs.length ≤ 1000) : Ev (tCall (sp_is_ring K) [] E ta) σ H (.bl (isRing h w cs)) := fun H1 e Q q =>
  ha H1 e _ fun H2 e2 => ⟨g, c, h, w, cs, rfl, ex_t (e.trans e2) hs, gk, ex_l (e.trans e2) hc, hn, hl, fun H3 e3 => q H3 (e2.trans e3)⟩
def t_is_ring (K : PySem.W.Frag) : TS := (tSeq (tIfS (tTest (tOp oLt (tCB (rLenS K) (tCons (tCall (sp_spread K) [] E0 (tCons (tVar 0) (tCons (tOp (rIxL K) (tVar 1) (tC (.int 0))) (tCons (tVar 1) tNil)))) tNil)) (tCB (rLenS K) (tCons (tVar 1) tNil)))) (tRet (tC (.bl false))) tNext)
      (tRet (tOp rIsN (tCall (sp_first_inner K) [] E0 (tCons (tVar 0) (tCons (tVar 1) tNil))) (tC .non))))
theorem at_first {cs : List Int} (hn : cs ≠ []) : atI (cs.map V.int) 0 = some (.int (cs.headD 0)) := by
  cases cs with
  | nil => exact absurd rfl hn
  | cons a r => exact atI_nat (j := 0) rfl
theorem opt_is (o : Option Nat) : decide (optV o = V.non) = o.isNone := by
  cases o with
  | none => rfl
  | some n => exact decide_eq_false fun e => V.noConfusion e
theorem pure_is_ring {K : PySem.W.Frag} {vs : List V} {H : Hp} {Q : VK} {E : XK} {D : Ends} (hD : D.rt = Q) (h : sp_is_ring K vs H Q E) : t_is_ring K D (start ["grid", "cells"] vs) H := by
  obtain ⟨g, c, h, w, cs, rfl, hs, gk, hc, hn, hl, q⟩ := h
  subst hD
  change t_is_ring K D [some (.ref g), some (.ref c)] H
  have it : Ev (tOp (rIxL K) (tVar 1) (tC (.int 0))) [some (.ref g), some (.ref c)] H (.int (cs.headD 0)) := ev_ixS (es_of (ev_var rfl) hc) ev_c (at_first hn)
  have sp := el_spread (E := E0) (K := K) (ta := tCons (tVar 0) (tCons (tOp (rIxL K) (tVar 1) (tC (.int 0))) (tCons (tVar 1) tNil))) (ea_cons (ev_var rfl) (ea_cons it (ea_cons (ev_var rfl) ea_nil))) hs gk hc hl
  have t := et_test (ev_op (r := oLt) (ev_lenN (K := K) sp) (ev_lenS (K := K) (ta := tVar 1) (es_of (ev_var rfl) hc)) rv_I0)
  rw [List.length_map, List.length_map] at t
  refine q_when t (fun hb H1 e1 => ?_) (fun hb H1 e1 => ?_)
  · have : isRing h w cs = false := if_pos (by have := of_decide_eq_true hb; omega)
    rw [this] at q
    exact s_ret ev_c fun H2 e2 => q H2 (e1.trans e2)
  · have : isRing h w cs = (firstInner h w cs).isNone := if_neg (by have := of_decide_eq_false hb; omega)
    rw [this, ← opt_is] at q
    exact s_ret (ev_op (ev_first_inner (ea_cons (ev_var rfl) (ea_cons (ev_var rfl) ea_nil)) (ex_t e1 hs) gk (ex_l e1 hc)) ev_c rv_isN) fun H2 e2 => q H2 (e1.trans e2)

/-! ### instances -/
/-- what a class of the text has: plain gets and stores, these names not among its attributes -/
structure Cf (K : PySem.W.Frag) (c : Addr) (fs : List Str) : Prop where
  cl : Cls K c
  no : ∀ f ∈ fs, NoAttr K c f
theorem lk_self {f : Str} {v : V} {r : List (Str × V)} : List.lookup f ((f, v) :: r) = some v := List.lookup_cons_self
theorem lk_ne {f g : Str} {v : V} {r : List (Str × V)} (h : ¬ g = f) : List.lookup g ((f, v) :: r) = List.lookup g r := by
  have hb : (g == f) = false := beq_eq_false_iff_ne.mpr h
  simp only [List.lookup, hb]
theorem lk_nil {g : Str} : List.lookup g ([] : List (Str × V)) = none := rfl
theorem put_ne {f g : Str} {v u : V} (h : ¬ f = g) : putF g u [(f, v)] = [(f, v), (g, u)] := by
  show (if f = g then [(f, u)] else (f, v) :: putF g u []) = _
  rw [if_neg h]
  rfl
theorem one_other : ¬ (("one" : Str) = "other") := by decide +kernel
theorem other_one : ¬ (("other" : Str) = "one") := by decide +kernel
theorem shows_one : ¬ (("shows" : Str) = "one") := by decide +kernel
theorem shows_other : ¬ (("shows" : Str) = "other") := by decide +kernel
theorem shows_cell : ¬ (("shows" : Str) = "cell") := by decide +kernel
theorem shows_cells : ¬ (("shows" : Str) = "cells") := by decide +kernel
section
variable {K : PySem.W.Frag} {σ : L2.St} {H H' : Hp} {ta tv te : TE} {D : Ends} {tz : TS} {p c dx : Addr} {fs : List (Str × V)} {f : Str} {ns : List Str} {v : V} {xs : List V}
theorem ev_fld (ha : Ev ta σ H (.ref p)) (hp : H p = some (.ins c dx fs)) (k : Cf K c ns) (hf : f ∈ ns) (hl : fs.lookup f = some v) : Ev (tFld K ta f) σ H v := fun H1 e Q q =>
  ha H1 e _ fun H2 e2 => ⟨p, c, dx, fs, v, rfl, e2 _ _ (e _ _ hp), k.cl, k.no f hf, hl, q H2 e2⟩
theorem s_fld (hv : Ev tv σ H v) (ha : Ev ta σ H (.ref p)) (hp : H p = some (.ins c dx fs)) (k : Cf K c ns) (hf : f ∈ ns) (hl : fs.length < 1000) (h : ∀ H1, Ex H H1 → D.nx σ (upd H1 p (.ins c dx (putF f v fs)))) : sFld K ta tv f D σ H :=
  hv H (Ex.refl H) _ fun H1 e1 => ha H1 e1 _ fun H2 e2 => ⟨p, c, dx, fs, rfl, e2 _ _ (e1 _ _ hp), k.cl, k.no f hf, hl, h H2 (e1.trans e2)⟩
theorem q_fld (hv : Ev tv σ H v) (ha : Ev ta σ H (.ref p)) (hp : H p = some (.ins c dx fs)) (k : Cf K c ns) (hf : f ∈ ns) (hl : fs.length < 1000) (h : ∀ H1, Ex H H1 → tz D σ (upd H1 p (.ins c dx (putF f v fs)))) : tSeq (sFld K ta tv f) tz D σ H :=
  s_fld (D := { D with nx := tz D }) hv ha hp k hf hl h
theorem s_fldL (hv : EvL tv σ H xs) (ha : Ev ta σ H (.ref p)) (hp : H p = some (.ins c dx fs)) (k : Cf K c ns) (hf : f ∈ ns) (hl : fs.length < 1000) (h : ∀ l H1, H l = none → Ex H H1 → H1 l = some (.lst xs) → D.nx σ (upd H1 p (.ins c dx (putF f (.ref l) fs)))) : sFld K ta tv f D σ H :=
  hv H (Ex.refl H) _ fun l H1 hl1 e1 h1 => ha H1 e1 _ fun H2 e2 => ⟨p, c, dx, fs, rfl, e2 _ _ (e1 _ _ hp), k.cl, k.no f hf, hl, h l H2 hl1 (e1.trans e2) (e2 _ _ h1)⟩
theorem q_fldL (hv : EvL tv σ H xs) (ha : Ev ta σ H (.ref p)) (hp : H p = some (.ins c dx fs)) (k : Cf K c ns) (hf : f ∈ ns) (hl : fs.length < 1000) (h : ∀ l H1, H l = none → Ex H H1 → H1 l = some (.lst xs) → tz D σ (upd H1 p (.ins c dx (putF f (.ref l) fs)))) : tSeq (sFld K ta tv f) tz D σ H :=
  s_fldL (D := { D with nx := tz D }) hv ha hp k hf hl h
end
/-- a new instance of the class c with these fields -/
def NewI (c : Addr) (fs : List (Str × V)) (H1 : Hp) (v : V) (H2 : Hp) : Prop := ∃ p dx, v = .ref p ∧ H1 p = none ∧ H2 p = some (.ins c dx fs)
theorem NewI.back {c : Addr} {fs : List (Str × V)} {H0 H1 H2 : Hp} {v : V} (e : Ex H0 H1) (h : NewI c fs H1 v H2) : NewI c fs H0 v H2 := by
  obtain ⟨p, dx, rfl, hp, h2⟩ := h
  exact ⟨p, dx, rfl, fresh_back e hp, h2⟩
theorem NewI.on {c : Addr} {fs : List (Str × V)} {H1 H2 H3 : Hp} {v : V} (e : Ex H2 H3) (h : NewI c fs H1 v H2) : NewI c fs H1 v H3 := by
  obtain ⟨p, dx, rfl, hp, h2⟩ := h
  exact ⟨p, dx, rfl, hp, e _ _ h2⟩
theorem ep_bare {c : Addr} {σ : L2.St} {H : Hp} : EvP (tBare c) σ H (NewI c []) := fun H1 e Q q x dx hx hdx ne =>
  q _ _ (fun a o ha => by rw [upd_ne (ne_of_none ha hx), upd_ne (ne_of_none ha hdx)]; exact ha) ⟨x, dx, rfl, hx, upd_same⟩
/-- all but p stays -/
def ButP (p : Addr) (H H2 : Hp) : Prop := ∀ a o, a ≠ p → H a = some o → H2 a = some o
theorem made_ex {H H2 : Hp} {x dx c : Addr} (hx : H x = none) (hdx : H dx = none) (h : ButP x (upd (upd H dx (.own x)) x (.ins c dx [])) H2) : Ex H H2 := fun a o ha => by
  have n1 := ne_of_none ha hx
  refine h a o n1 ?_
  rw [upd_ne n1, upd_ne (ne_of_none ha hdx)]
  exact ha
/-! ### Ring -/
def sp_Ring_shows (K : PySem.W.Frag) : Sp := fun vs H Q _ => ∃ p g c h w cs, vs = [.ref p, .ref g, .ref c] ∧ SqT K H g [.int ((h : Nat) : Int), .int ((w : Nat) : Int)] ∧ GOk h w ∧ SqL K H c ((cs : List Int).map V.int) ∧ cs ≠ [] ∧ cs.length ≤ 1000 ∧ RetV (.bl (isRing h w cs)) H Q
def t_Ring_shows (K : PySem.W.Frag) : TS := (tRet (tCall (sp_is_ring K) [] E0 (tCons (tVar 1) (tCons (tVar 2) tNil))))
theorem pure_Ring_shows {K : PySem.W.Frag} {vs : List V} {H : Hp} {Q : VK} {E : XK} {D : Ends} (hD : D.rt = Q) (h : sp_Ring_shows K vs H Q E) : t_Ring_shows K D (start ["self", "grid", "cells"] vs) H := by
  obtain ⟨p, g, c, h, w, cs, rfl, hs, gk, hc, hn, hl, q⟩ := h
  subst hD
  change t_Ring_shows K D [some (.ref p), some (.ref g), some (.ref c)] H
  exact s_ret (ev_is_ring (ea_cons (ev_var rfl) (ea_cons (ev_var rfl) ea_nil)) hs gk hc hn hl) fun H1 e1 => q H1 e1
/-! ### Split -/
def flds2 (u v : V) : List (Str × V) := [("one", u), ("other", v)]
theorem flds2_one {u v : V} : (flds2 u v).lookup ("one" : Str) = some u := lk_self
theorem flds2_other {u v : V} : (flds2 u v).lookup ("other" : Str) = some v := (lk_ne other_one).trans lk_self
theorem flds2_shows {u v : V} : (flds2 u v).lookup ("shows" : Str) = none := (lk_ne shows_one).trans (lk_ne shows_other)
def sp_Split_init (K : PySem.W.Frag) (C : Ad) : Sp := fun vs H Q _ => ∃ p dx u v, vs = [.ref p, u, v] ∧ H p = some (.ins C.cSplit dx []) ∧ ∀ H2, ButP p H H2 → H2 p = some (.ins C.cSplit dx (flds2 u v)) → Q .non H2
def t_Split_init (K : PySem.W.Frag) : TS := (tSeq (sFld K (tVar 0) (tVar 1) "one")
      (sFld K (tVar 0) (tVar 2) "other"))
theorem pure_Split_init {K : PySem.W.Frag} {C : Ad} {vs : List V} {H : Hp} {Q : VK} {E : XK} {D : Ends} (hD : D.nx = fun _ H' => Q .non H') (cf_Split : Cf K C.cSplit ["one", "other"]) (h : sp_Split_init K C vs H Q E) : t_Split_init K D (start ["self", "one", "other"] vs) H := by
  obtain ⟨p, dx, u, v, rfl, hp, q⟩ := h
  change t_Split_init K D [some (.ref p), some u, some v] H
  refine q_fld (ev_var rfl) (ev_var rfl) hp cf_Split (by simp) (by simp) fun H1 e1 => ?_
  refine s_fld (ev_var rfl) (ev_var rfl) upd_same cf_Split (by simp) (by simp [putF]) fun H2 e2 => ?_
  rw [hD]
  refine q _ (fun a o ne ha => ?_) ?_
  · rw [upd_ne ne]
    refine e2 _ _ ?_
    rw [upd_ne ne]
    exact e1 _ _ ha
  · rw [upd_same]
    exact congrArg (fun z => some (HO.ins C.cSplit dx z)) (put_ne one_other)
theorem ep_Split {K : PySem.W.Frag} {C : Ad} {σ : L2.St} {H : Hp} {ta : TA} {E : XK} {u v : V} (ha : EvA ta σ H [u, v]) : EvP (tMake C.cSplit (sp_Split_init K C) [] E ta) σ H (NewI C.cSplit (flds2 u v)) := fun H1 e Q q =>
  ha H1 e _ fun H2 e2 x dx hx hdx ne => ⟨x, dx, u, v, rfl, upd_same, fun H3 b h3 => ⟨rfl, q _ H3 (e2.trans (made_ex hx hdx b)) ⟨x, dx, rfl, fresh_back e2 hx, h3⟩⟩⟩
def splitShows (h w : Nat) (cs : List Int) (x y : Int) : Bool := (decide (x ∈ cs) && decide (y ∈ cs)) && !decide (y ∈ spread h w x cs)
def sp_Split_shows (K : PySem.W.Frag) (C : Ad) : Sp := fun vs H Q _ => ∃ p g c h w cs dx x y, vs = [.ref p, .ref g, .ref c] ∧ H p = some (.ins C.cSplit dx (flds2 (.int x) (.int y))) ∧ SqT K H g [.int ((h : Nat) : Int), .int ((w : Nat) : Int)] ∧ GOk h w ∧ SqL K H c ((cs : List Int).map V.int) ∧ cs.length ≤ 1000 ∧ RetV (.bl (splitShows h w cs x y)) H Q
def t_Split_shows (K : PySem.W.Frag) : TS := (tSeq (tIfS (tOr (tTest (tOp (rIn K true) (tFld K (tVar 0) "one") (tVar 2))) (tTest (tOp (rIn K true) (tFld K (tVar 0) "other") (tVar 2)))) (tRet (tC (.bl false))) tNext)
      (tRet (tOp (rIn K true) (tFld K (tVar 0) "other") (tCall (sp_spread K) [] E0 (tCons (tVar 1) (tCons (tFld K (tVar 0) "one") (tCons (tVar 2) tNil)))))))
theorem pure_Split_shows {K : PySem.W.Frag} {C : Ad} {vs : List V} {H : Hp} {Q : VK} {E : XK} {D : Ends} (hD : D.rt = Q) (cf_Split : Cf K C.cSplit ["one", "other"]) (h : sp_Split_shows K C vs H Q E) : t_Split_shows K D (start ["self", "grid", "cells"] vs) H := by
  obtain ⟨p, g, c, h, w, cs, dx, x, y, rfl, hp, hs, gk, hc, hl, q⟩ := h
  subst hD
  change t_Split_shows K D [some (.ref p), some (.ref g), some (.ref c)] H
  have f1 : ∀ {H1}, Ex H H1 → Ev (tFld K (tVar 0) "one") [some (.ref p), some (.ref g), some (.ref c)] H1 (.int x) := fun e => ev_fld (ev_var rfl) (e _ _ hp) cf_Split (by simp) flds2_one
  have f2 : ∀ {H1}, Ex H H1 → Ev (tFld K (tVar 0) "other") [some (.ref p), some (.ref g), some (.ref c)] H1 (.int y) := fun e => ev_fld (ev_var rfl) (e _ _ hp) cf_Split (by simp) flds2_other
  refine q_when (et_or (et_test (ev_notIn (f1 (Ex.refl H)) (es_of (ev_var rfl) hc))) (fun _ => et_test (ev_notIn (f2 (Ex.refl H)) (es_of (ev_var rfl) hc)))) (fun hb H1 e1 => ?_) (fun hb H1 e1 => ?_)
  · have : splitShows h w cs x y = false := by
      unfold splitShows
      rcases Bool.or_eq_true _ _ ▸ hb with z | z
      · have : decide (x ∈ cs) = false := by simpa using z
        rw [this]; rfl
      · have : decide (y ∈ cs) = false := by simpa using z
        rw [this, Bool.and_false]; rfl
    rw [this] at q
    exact s_ret ev_c fun H2 e2 => q H2 (e1.trans e2)
  · have : splitShows h w cs x y = !decide (y ∈ spread h w x cs) := by
      unfold splitShows
      have hb := (Bool.or_eq_false_iff.mp hb)
      have z1 : decide (x ∈ cs) = true := by simpa using hb.1
      have z2 : decide (y ∈ cs) = true := by simpa using hb.2
      rw [z1, z2]; rfl
    rw [this] at q
    have sp := el_spread (E := E0) (K := K) (x := x) (ta := tCons (tVar 1) (tCons (tFld K (tVar 0) "one") (tCons (tVar 2) tNil))) (ea_cons (ev_var rfl) (ea_cons (f1 e1) (ea_cons (ev_var rfl) ea_nil))) (ex_t e1 hs) gk (ex_l e1 hc) hl
    exact s_ret (ev_notIn (f2 e1) (es_new sp)) fun H2 e2 => q H2 (e1.trans e2)
/-! ### Hole -/
def flds1 (u : V) : List (Str × V) := [("cell", u)]
theorem flds1_cell {u : V} : (flds1 u).lookup ("cell" : Str) = some u := lk_self
theorem flds1_shows {u : V} : (flds1 u).lookup ("shows" : Str) = none := lk_ne shows_cell
def sp_Hole_init (K : PySem.W.Frag) (C : Ad) : Sp := fun vs H Q _ => ∃ p dx u, vs = [.ref p, u] ∧ H p = some (.ins C.cHole dx []) ∧ ∀ H2, ButP p H H2 → H2 p = some (.ins C.cHole dx (flds1 u)) → Q .non H2
def t_Hole_init (K : PySem.W.Frag) : TS := (sFld K (tVar 0) (tVar 1) "cell")
theorem pure_Hole_init {K : PySem.W.Frag} {C : Ad} {vs : List V} {H : Hp} {Q : VK} {E : XK} {D : Ends} (hD : D.nx = fun _ H' => Q .non H') (cf_Hole : Cf K C.cHole ["cell"]) (h : sp_Hole_init K C vs H Q E) : t_Hole_init K D (start ["self", "cell"] vs) H := by
  obtain ⟨p, dx, u, rfl, hp, q⟩ := h
  change t_Hole_init K D [some (.ref p), some u] H
  refine s_fld (ev_var rfl) (ev_var rfl) hp cf_Hole (by simp) (by simp) fun H1 e1 => ?_
  rw [hD]
  refine q _ (fun a o ne ha => ?_) ?_
  · rw [upd_ne ne]
    exact e1 _ _ ha
  · rw [upd_same]
    rfl
theorem ep_Hole {K : PySem.W.Frag} {C : Ad} {σ : L2.St} {H : Hp} {ta : TA} {E : XK} {u : V} (ha : EvA ta σ H [u]) : EvP (tMake C.cHole (sp_Hole_init K C) [] E ta) σ H (NewI C.cHole (flds1 u)) := fun H1 e Q q =>
  ha H1 e _ fun H2 e2 x dx hx hdx ne => ⟨x, dx, u, rfl, upd_same, fun H3 b h3 => ⟨rfl, q _ H3 (e2.trans (made_ex hx hdx b)) ⟨x, dx, rfl, fresh_back e2 hx, h3⟩⟩⟩
def holeShows (h w : Nat) (cs : List Int) (x : Int) : Bool := (!decide (x ∈ cs) && (decide (0 ≤ x) && decide (x < (h : Int) * w))) && isInner h w cs x
def sp_Hole_shows (K : PySem.W.Frag) (C : Ad) : Sp := fun vs H Q _ => ∃ p g c h w cs dx x, vs = [.ref p, .ref g, .ref c] ∧ H p = some (.ins C.cHole dx (flds1 (.int x))) ∧ SqT K H g [.int ((h : Nat) : Int), .int ((w : Nat) : Int)] ∧ GOk h w ∧ SqL K H c ((cs : List Int).map V.int) ∧ RetV (.bl (holeShows h w cs x)) H Q
def t_Hole_shows (K : PySem.W.Frag) : TS := (tSeq (tIfS (tOr (tTest (tOp (rIn K false) (tFld K (tVar 0) "cell") (tVar 2))) (tNot (tTest (tChain oLe oLt (tC (.int 0)) (tFld K (tVar 0) "cell") (tOp oMul (tOp (rIxT K) (tVar 1) (tC (.int 0))) (tOp (rIxT K) (tVar 1) (tC (.int 1)))))))) (tRet (tC (.bl false))) tNext)
      (tRet (tCall (sp_is_inner K) [] E0 (tCons (tVar 1) (tCons (tVar 2) (tCons (tFld K (tVar 0) "cell") tNil))))))
theorem pure_Hole_shows {K : PySem.W.Frag} {C : Ad} {vs : List V} {H : Hp} {Q : VK} {E : XK} {D : Ends} (hD : D.rt = Q) (cf_Hole : Cf K C.cHole ["cell"]) (h : sp_Hole_shows K C vs H Q E) : t_Hole_shows K D (start ["self", "grid", "cells"] vs) H := by
  obtain ⟨p, g, c, h, w, cs, dx, x, rfl, hp, hs, gk, hc, q⟩ := h
  subst hD
  change t_Hole_shows K D [some (.ref p), some (.ref g), some (.ref c)] H
  have gb := gk
  obtain ⟨g1, g2, g3, g4⟩ := gb
  have f1 : ∀ {H1}, Ex H H1 → Ev (tFld K (tVar 0) "cell") [some (.ref p), some (.ref g), some (.ref c)] H1 (.int x) := fun e => ev_fld (ev_var rfl) (e _ _ hp) cf_Hole (by simp) flds1_cell
  have hm : Ev (tOp oMul (tOp (rIxT K) (tVar 1) (tC (.int 0))) (tOp (rIxT K) (tVar 1) (tC (.int 1)))) [some (.ref p), some (.ref g), some (.ref c)] H (.int ((h : Int) * w)) := by walk_at "ev"
  refine q_when (et_or (et_test (ev_isIn (f1 (Ex.refl H)) (es_of (ev_var rfl) hc))) (fun _ => et_not (et_test (ev_chain (x := .int 0) ev_c (f1 (Ex.refl H)) rv_I0 (fun _ => hm) (fun _ => rv_I0))))) (fun hb H1 e1 => ?_) (fun hb H1 e1 => ?_)
  · have : holeShows h w cs x = false := by
      unfold holeShows
      rcases Bool.or_eq_true _ _ ▸ hb with z | z
      · rw [z]; rfl
      · rw [Bool.not_eq_true'] at z
        rw [z, Bool.and_false]; rfl
    rw [this] at q
    exact s_ret ev_c fun H2 e2 => q H2 (e1.trans e2)
  · have : holeShows h w cs x = isInner h w cs x := by
      unfold holeShows
      have hb := (Bool.or_eq_false_iff.mp hb)
      rw [hb.1, show (decide (0 ≤ x) && decide (x < (h : Int) * w)) = true by simpa using hb.2]; rfl
    rw [this] at q
    exact s_ret (ev_is_inner (ea_cons (ev_var rfl) (ea_cons (ev_var rfl) (ea_cons (f1 e1) ea_nil))) (ex_t e1 hs) gk (ex_l e1 hc)) fun H2 e2 => q H2 (e1.trans e2)

/-! ### lists of lists by addresses and rows -/
def toV (b : Addr × List Int) : V := .ref b.1
theorem paired_bs {F : Addr → List V → Prop} : ∀ {ps : List Addr} {nss : List (List Int)}, Paired F ps (ints2 nss) → ∃ bs : List (Addr × List Int), ps = bs.map (·.1) ∧ nss = bs.map (·.2) ∧ ∀ b ∈ bs, F b.1 (b.2.map V.int)
  | [], [], .nil => ⟨[], rfl, rfl, fun b hb => nomatch hb⟩
  | p :: ps, ns :: nss, .cons h hs => by
    obtain ⟨bs, rfl, rfl, hb⟩ := paired_bs hs
    exact ⟨(p, ns) :: bs, rfl, rfl, fun b m => by
      rcases List.mem_cons.mp m with rfl | m
      · exact h
      · exact hb b m⟩
theorem bs_paired {F : Addr → List V → Prop} : ∀ {bs : List (Addr × List Int)}, (∀ b ∈ bs, F b.1 (b.2.map V.int)) → Paired F (bs.map (·.1)) (ints2 (bs.map (·.2)))
  | [], _ => .nil
  | b :: bs, h => .cons (h b List.mem_cons_self) (bs_paired fun c m => h c (List.mem_cons_of_mem _ m))
theorem NewLL.bs {H1 H2 : Hp} {v : V} {nss : List (List Int)} (h : NewLL H1 v H2 (ints2 nss)) : ∃ p, ∃ bs : List (Addr × List Int), v = .ref p ∧ H1 p = none ∧ H2 p = some (.lst (bs.map toV)) ∧ nss = bs.map (·.2) ∧ ∀ b ∈ bs, H1 b.1 = none ∧ H2 b.1 = some (.lst (b.2.map V.int)) := by
  obtain ⟨p, ps, rfl, hp, h2, hr⟩ := h
  obtain ⟨bs, rfl, rfl, hb⟩ := paired_bs hr
  exact ⟨p, bs, rfl, hp, by rw [List.map_map] at h2; exact h2, rfl, hb⟩
theorem NewLL.of {H1 H2 : Hp} {p : Addr} {bs : List (Addr × List Int)} (hp : H1 p = none) (h2 : H2 p = some (.lst (bs.map toV))) (hb : ∀ b ∈ bs, H1 b.1 = none ∧ H2 b.1 = some (.lst (b.2.map V.int))) : NewLL H1 (.ref p) H2 (ints2 (bs.map (·.2))) :=
  ⟨p, bs.map (·.1), rfl, hp, by rw [List.map_map]; exact h2, bs_paired (F := fun q xs => H1 q = none ∧ H2 q = some (.lst xs)) hb⟩
/-- rows of ints at an address, to be read -/
def RowsAt (K : PySem.W.Frag) (H : Hp) (a : Addr) (nss : List (List Int)) : Prop := ∃ rs : List Addr, SqL K H a (rs.map V.ref) ∧ Paired (fun (r : Addr) (ns : List Int) => SqL K H r (ns.map V.int)) rs nss
theorem RowsAt.mono {K : PySem.W.Frag} {H H' : Hp} {a : Addr} {nss : List (List Int)} (e : Ex H H') (h : RowsAt K H a nss) : RowsAt K H' a nss := by
  obtain ⟨rs, h1, h2⟩ := h
  exact ⟨rs, ex_l e h1, Paired.mapP h2 fun r ns z => ex_l e z⟩
theorem dpAll_rowsAt {K : PySem.W.Frag} {H : Hp} : ∀ {rs : List Addr} {nss : List (List Int)}, Paired (fun (r : Addr) (ns : List Int) => SqL K H r (ns.map V.int)) rs nss → DpAll K H (rs.map V.ref) (nss.map dI)
  | [], [], .nil => .nil
  | _ :: _, _ :: _, .cons h hs => .cons (dp_ints h) (dpAll_rowsAt hs)
theorem RowsAt.dp {K : PySem.W.Frag} {H : Hp} {a : Addr} {nss : List (List Int)} (h : RowsAt K H a nss) : Dp K H (.ref a) (dII nss) := by
  obtain ⟨rs, h1, h2⟩ := h
  exact .lst h1 (dpAll_rowsAt h2)
section
variable {K : PySem.W.Frag} {σ : L2.St} {H H' : Hp} {ta tb tc te tl : TE} {t : TT} {D : Ends} {tu tz : TS}
/-- [x for x in rows if t], rows new lists of ints -/
theorem ep_lcRows {j : Nat} {vs : List Nat} {nss : List (List Int)} (f : List Int → Bool) (h : EvP tl σ H (fun H1 v H2 => NewLL H1 v H2 (ints2 nss))) (hz : nss.length ≤ 40000) (hw : ∀ x, wipe ((wipe σ vs).set j (some x)) vs = wipe σ vs) (hj : ∀ x : V, ((wipe σ vs).set j (some x))[j]? = some (some x))
    (ht : ∀ (ns : List Int) q H1, Ex H H1 → ns ∈ nss → H1 q = some (.lst (ns.map V.int)) → EvT t ((wipe σ vs).set j (some (.ref q))) H1 (f ns)) :
    EvP (tLc (iList K tl) (gName j) t (tVar j) vs) σ H (fun H1 v H2 => NewLL H1 v H2 (ints2 (nss.filter f))) := fun H0 e Q q => h H0 e _ fun v H1 e1 hv => by
  obtain ⟨p, bs, rfl, hp, h1, rfl, hb⟩ := hv.bs
  rw [List.length_map] at hz
  refine ⟨p, rfl, ⟨_, sq_of h1⟩, fun Dl hD => lc_list (xs := bs.map toV) (fun n H' => H1 Dl = none ∧ Ex H1 H' ∧ H' Dl = some (.lst (((bs.take n).filter fun b => f b.2).map toV))) ⟨hD, Ex.new hD, upd_same⟩ (fun i H' _ p => sq_of (p.2.1 _ _ h1)) (fun i x H' hi p => ?_) (fun H' p => ?_)⟩
  · rw [List.getElem?_map] at hi
    obtain ⟨b, hbi, rfl⟩ := Option.map_eq_some_iff.mp hi
    have hm : b ∈ bs := List.mem_of_getElem? hbi
    obtain ⟨p1, p2, p3⟩ := p
    refine ⟨hw _, ht b.2 b.1 H1 (e.trans e1) (List.mem_map.mpr ⟨b, hm, rfl⟩) (hb b hm).2 H' p2 _ fun H3 e3 => ?_⟩
    have e2 : ((bs.take (i + 1)).filter fun b => f b.2).map toV = ((bs.take i).filter fun b => f b.2).map toV ++ if f b.2 = true then [toV b] else [] := by
      rw [take_snoc hbi, List.filter_append, List.map_append]
      congr 1
      cases hf : f b.2 <;> simp [hf]
    have hlen : (((bs.take i).filter fun b => f b.2).map toV).length < 100000 := by
      rw [List.length_map]
      have h1 := List.length_filter_le (fun b : Addr × List Int => f b.2) (bs.take i)
      have h2 : (bs.take i).length ≤ bs.length := by rw [List.length_take]; omega
      omega
    rw [e2]
    cases hf : f b.2 with
    | true =>
      rw [if_pos rfl, if_pos rfl]
      exact ⟨toV b, hj _, _, e3 _ _ p3, sz_lt hlen, p1, Ex.mut (p2.trans e3) p1, upd_same⟩
    | false =>
      rw [if_neg (by decide), if_neg (by decide), List.append_nil]
      exact ⟨p1, p2.trans e3, e3 _ _ p3⟩
  · rw [List.length_map, List.take_length] at p
    obtain ⟨p1, p2, p3⟩ := p
    refine q _ H' (e1.trans p2) ?_
    have hE : (bs.map (·.2)).filter f = (bs.filter fun b => f b.2).map (·.2) := by
      rw [List.filter_map]
      rfl
    rw [hE]
    exact NewLL.of (fresh_back e1 p1) p3 fun b hm => by
      have hm := (List.mem_filter.mp hm).1
      exact ⟨(hb b hm).1, p2 _ _ (hb b hm).2⟩
/-- for x, y in zip(xs, ys) of one length -/
theorem s_forZ {a b : Addr} {xs ys : List V} {i j : Nat} (ha : Ev ta σ H (.ref a)) (hb : Ev tb σ H (.ref b)) (hx : SqL K H a xs) (hy : SqL K H b ys) (hl : xs.length = ys.length) (Pv : Nat → L2.St → Hp → Prop) (h0 : ∀ H1, Ex H H1 → Pv 0 σ H1) (hq : ∀ n σ' H', Pv n σ' H' → Ex H H')
    (hs : ∀ n x y σ' H' T, xs[n]? = some x → ys[n]? = some y → Pv n σ' H' → H' T = none → tu { D with nx := Pv (n + 1), ct := Pv (n + 1), bk := D.nx } ((σ'.set i (some x)).set j (some y)) (upd H' T (.tup [x, y]))) (hd : ∀ σ' H', Pv xs.length σ' H' → D.nx σ' H') :
    tFor (iZip K (tCons ta (tCons tb tNil))) (gTup K 2 (gCons (gName i) (gCons (gName j) gNil))) tu D σ H :=
  ha H (Ex.refl H) _ fun H1 e1 => hb H1 e1 _ fun H2 e2 => ⟨a, b, xs, ys, rfl, ex_l (e1.trans e2) hx, ex_l (e1.trans e2) hy, RZ.for_zipL hl Pv (h0 H2 (e1.trans e2)) (fun n σ' H' p => ⟨ex_l (hq n σ' H' p) hx, ex_l (hq n σ' H' p) hy⟩)
    (fun n x y T σ' H' gx gy p hT => ⟨T, [x, y], rfl, st_of upd_same, rfl, x, [y], rfl, y, [], rfl, rfl, hs n x y σ' H' T gx gy p hT⟩) hd⟩
theorem q_forZ {a b : Addr} {xs ys : List V} {i j : Nat} (ha : Ev ta σ H (.ref a)) (hb : Ev tb σ H (.ref b)) (hx : SqL K H a xs) (hy : SqL K H b ys) (hl : xs.length = ys.length) (Pv : Nat → L2.St → Hp → Prop) (h0 : ∀ H1, Ex H H1 → Pv 0 σ H1) (hq : ∀ n σ' H', Pv n σ' H' → Ex H H')
    (hs : ∀ n x y σ' H' T, xs[n]? = some x → ys[n]? = some y → Pv n σ' H' → H' T = none → tu { D with nx := Pv (n + 1), ct := Pv (n + 1), bk := tz D } ((σ'.set i (some x)).set j (some y)) (upd H' T (.tup [x, y]))) (hd : ∀ σ' H', Pv xs.length σ' H' → tz D σ' H') :
    tSeq (tFor (iZip K (tCons ta (tCons tb tNil))) (gTup K 2 (gCons (gName i) (gCons (gName j) gNil))) tu) tz D σ H := s_forZ (D := { D with nx := tz D }) ha hb hx hy hl Pv h0 hq hs hd
/-- sorted(rows) -/
theorem ep_sortedRows {bs : List (Addr × List Int)} {a : Addr} (ha : Ev ta σ H (.ref a)) (h : SqL K H a (bs.map toV)) (hb : ∀ b ∈ bs, SqL K H b.1 (b.2.map V.int)) :
    EvP (tCB (rSortV dI K) (tCons ta tNil)) σ H (fun H1 v H2 => ∃ p, v = .ref p ∧ H1 p = none ∧ H2 p = some (.lst ((bs.mergeSort fun p q => decide (p.2 ≤ q.2)).map toV))) := fun H1 e Q q => ha H1 e _ fun H2 e2 => by
  have e12 := e.trans e2
  refine ⟨a, bs.map fun b => (toV b, b.2), rfl, ?_, fun c hc => ?_, ?_, ?_, fun c hc => ?_, fun p hp => ?_⟩
  · rw [List.map_map]
    exact ex_l e12 h
  · obtain ⟨b, hm, rfl⟩ := List.mem_map.mp hc
    exact dp_ints (ex_l e12 (hb b hm))
  · exact PySem.W.AllAlike.of (enc := fun b : V × List Int => dI b.2) fun b b' => by
      show PySem.W.alike (.list _) (.list _) = true
      rw [PySem.W.alike]
      exact PySem.W.alike_ints _ _
  · exact PySem.W.Sortable.others (enc := fun b : V × List Int => dI b.2) fun b => ⟨fun z => PyData.noConfusion z, fun xs z => PyData.noConfusion z⟩
  · show (dI c.2).depth ≤ 40
    unfold dI
    rw [PyData.depth]
    have := depth_ints c.2
    omega
  · have e3 : ((bs.map fun b => (toV b, b.2)).mergeSort (PySem.W.dataLe false fun b => dI b.2)).map (·.1) = (bs.mergeSort fun p q => decide (p.2 ≤ q.2)).map toV := by
      have d := PySem.W.dataLe_rows (β := V × List Int) (fun b => b.2)
      have d2 : (PySem.W.dataLe false fun b : V × List Int => dI b.2) = fun p q => decide (p.2 ≤ q.2) := d
      rw [d2, ← List.map_mergeSort (r := fun p q : Addr × List Int => decide (p.2 ≤ q.2)) (f := fun b : Addr × List Int => (toV b, b.2)) (fun _ _ _ _ => rfl), List.map_map]
      rfl
    rw [e3]
    exact q _ _ (e2.trans (Ex.new hp)) ⟨p, rfl, fresh_back e2 hp, upd_same⟩
end
/-! ### all_rings -/
def sp_all_rings (K : PySem.W.Frag) : Sp := fun vs H Q _ => ∃ g h w, vs = [.ref g] ∧ SqT K H g [.int ((h : Nat) : Int), .int ((w : Nat) : Int)] ∧ GOk h w ∧ h * w ≤ 9 ∧ RetP (fun H1 v H2 => NewLL H1 v H2 (ints2 (allRings h w))) H Q
theorem ep_all_rings {K : PySem.W.Frag} {σ : L2.St} {H : Hp} {ta : TE} {E : XK} {h w : Nat} (ha : EvST K ta σ H [.int (h : Int), .int (w : Int)]) (gk : GOk h w) (hm : h * w ≤ 9) : EvP (tCall (sp_all_rings K) [] E (tCons ta tNil)) σ H (fun H1 v H2 => NewLL H1 v H2 (ints2 (allRings h w))) := fun H1 e Q q =>
  ha H1 e _ fun g H2 e2 hg => ⟨g, h, w, rfl, hg, gk, hm, fun v H3 e3 z => q v H3 (e2.trans e3) (z.back e2)⟩
def t_all_rings (K : PySem.W.Frag) : TS := (tSeq (tPar 1 2 (tCons (tOp oMul (tOp (rIxT K) (tVar 0) (tC (.int 0))) (tOp (rIxT K) (tVar 0) (tC (.int 1)))) (tCons (tLst tNil) tNil)))
      (tSeq (tFor (iRng2 (tCons (tC (.int 1)) (tCons (tOp oShl (tC (.int 1)) (tVar 1)) tNil))) (gName 3) (tSeq (tAsg (tLc (iRng1 (tCons (tVar 1) tNil)) (gName 5) (tTest (tOp rEq (tOp oAnd (tOp oShr (tVar 3) (tVar 5)) (tC (.int 1))) (tC (.int 1)))) (tVar 5) [5]) (gName 4))
      (tIfS (tB (tCall (sp_is_ring K) [] E0 (tCons (tVar 0) (tCons (tVar 4) tNil)))) (tDrop (tBM K "list" rAppend (tVar 2) (tCons (tVar 4) tNil))) tNext)))
      (tRet (tCB (rSortV dI K) (tCons (tVar 2) tNil)))))
theorem pure_all_rings {K : PySem.W.Frag} {vs : List V} {H : Hp} {Q : VK} {E : XK} {D : Ends} (hD : D.rt = Q) (h : sp_all_rings K vs H Q E) : t_all_rings K D (start ["grid", "many", "found", "number", "cells", "cell"] vs) H := by
  obtain ⟨g, h, w, rfl, hs, gk, hm, q⟩ := h
  subst hD
  change t_all_rings K D [some (.ref g), none, none, none, none, none] H
  have gb := gk
  obtain ⟨g1, g2, g3, g4⟩ := gb
  have hwl := hw_le gk
  have cast : ((h * w : Nat) : Int) = (h : Int) * w := Int.natCast_mul h w
  have p9 := pow_le9 hm
  have p1 : 1 ≤ 2 ^ (h * w) := Nat.one_le_two_pow
  refine q_parL (i := 1) (j := 2) (x := .int ((h : Int) * w)) (xs := []) (by walk_at "ev") (el_lst ea_nil (by simp)) fun p H1 hp e1 h1 => ?_
  have shl : ((1 : Int) * 2 ^ ((h : Int) * w).toNat) = ((2 ^ (h * w) : Nat) : Int) := by
    rw [Int.one_mul, ← cast, Int.toNat_natCast]
    exact (Int.natCast_pow 2 (h * w)).symm
  refine q_forR2 (j := 3) (lo := 1) (n := ((2 ^ (h * w) : Nat) : Int)) (ea_cons ev_c (ea_cons (by rw [← shl]; exact ev_op (ev_c (v := .int 1)) (ev_var rfl) (rv_I ⟨by omega, by omega, by decide⟩)) ea_nil)) ⟨by decide, by decide, by omega, by omega⟩
    (fun i σ' H' => ∃ y3 y4, σ' = [some (.ref g), some (.int ((h : Int) * w)), some (.ref p), y3, y4, none] ∧ Ex H H' ∧ ∃ bs : List (Addr × List Int), H' p = some (.lst (bs.map toV)) ∧ bs.map (·.2) = ringsTo h w i ∧ ∀ b ∈ bs, (H b.1 = none ∧ b.1 ≠ p) ∧ H' b.1 = some (.lst (b.2.map V.int)))
    (fun H2 e2 => ⟨none, none, rfl, e1.trans e2, [], e2 _ _ h1, rfl, fun b hb => nomatch hb⟩) (fun i σ' H' hi hP => ?_) (fun σ' H' hP => ?_)
  · obtain ⟨y3, y4, rfl, e2, bs, h2, hbs, hb⟩ := hP
    have hs2 := ex_t e2 hs
    have ei : (1 : Int) + (i : Int) = ((i + 1 : Nat) : Int) := by omega
    have hik : i + 1 < 2 ^ (h * w) := by omega
    rw [ei]
    have l := el_lcR (σ := [some (.ref g), some (.int ((h : Int) * w)), some (.ref p), some (.int ((i + 1 : Nat) : Int)), y4, none]) (H := H') (t := tTest (tOp rEq (tOp oAnd (tOp oShr (tVar 3) (tVar 5)) (tC (.int 1))) (tC (.int 1)))) (te := tVar 5) (j := 5) (vs := [5]) (n := h * w) (ta := tCons (tVar 1) tNil)
      (fun c => decide ((i + 1) / 2 ^ c % 2 = 1)) (fun c => V.int (c : Int)) (ea_cons (by rw [cast]; exact ev_var rfl) ea_nil) (by omega) (fun x => rfl)
      (fun c H3 e3 hc => by
        have v : Ev (tOp oAnd (tOp oShr (tVar 3) (tVar 5)) (tC (.int 1))) [some (.ref g), some (.int ((h : Int) * w)), some (.ref p), some (.int ((i + 1 : Nat) : Int)), y4, some (.int (c : Int))] H3 (.int (((i + 1) / 2 ^ c % 2 : Nat) : Int)) := by
          refine ev_is (ev_op (ev_op (x := .int ((i + 1 : Nat) : Int)) (y := .int (c : Int)) (ev_var rfl) (ev_var rfl) (rv_I (by show (0 : Int) ≤ _; omega))) (ev_c (v := .int 1)) rv_I0) ?_
          show V.int (Builtin.bitAnd (((i + 1 : Nat) : Int) / 2 ^ ((c : Int)).toNat) 1) = _
          rw [PyProof.Rows.bitAnd_m1, Int.toNat_natCast]
          congr 1
        refine et_is (et_test (ev_op v (ev_c (v := .int 1)) (rv_eq rfl))) ?_
        rw [Bool.eq_iff_iff]
        simp only [decide_eq_true_eq, V.int.injEq]
        omega) (fun c H3 e3 hc _ => ev_var rfl)
    have le : (((List.range (h * w)).filter fun (c : Nat) => decide ((i + 1) / 2 ^ c % 2 = 1)).map fun (c : Nat) => V.int (c : Int)) = (cellsOf (h * w) (i + 1)).map V.int := by
      unfold cellsOf
      rw [List.map_map]
      rfl
    rw [le] at l
    refine q_asgL (i := 4) l fun c H3 hc e3 h3 => ?_
    have cne := cellsOf_ne (m := h * w) (k := i + 1) (by omega) hik
    have cl := cellsOf_len (h * w) (i + 1)
    have rs := ringsTo_succ h w i
    have rl := ringsTo_len h w i
    have bl : bs.length ≤ i := by
      have := congrArg List.length hbs
      rw [List.length_map] at this
      omega
    generalize cellsOf (h * w) (i + 1) = cs at *
    have cp : c ≠ p := (ne_of_none h2 hc).symm
    refine s_when (b := isRing h w cs) (et_B (ev_is_ring (ea_cons (ev_var rfl) (ea_cons (ev_var rfl) ea_nil)) (ex_t e3 hs2) gk (sq_of h3) cne (by omega))) (fun hb' H4 e4 => ?_) (fun hb' H4 e4 => ?_)
    · refine s_app (K := K) (l := p) (v := .ref c) (e4 _ _ (e3 _ _ h2)) (ev_var rfl) (ev_var rfl) (by rw [List.length_map]; omega) fun H5 e5 => ⟨_, _, rfl, Ex.mut (((e2.trans e3).trans e4).trans e5) hp, bs ++ [(c, cs)], ?_, ?_, fun b hm => ?_⟩
      · rw [upd_same, List.map_append]
        rfl
      · rw [List.map_append, rs, hbs, if_pos hb']
        rfl
      · rcases List.mem_append.mp hm with hm | hm
        · have z := hb b hm
          refine ⟨z.1, ?_⟩
          rw [upd_ne z.1.2]
          exact e5 _ _ (e4 _ _ (e3 _ _ z.2))
        · have : b = (c, cs) := by simpa using hm
          subst this
          refine ⟨⟨fresh_back e2 hc, cp⟩, ?_⟩
          rw [upd_ne cp]
          exact e5 _ _ (e4 _ _ h3)
    · refine ⟨_, _, rfl, (e2.trans e3).trans e4, bs, e4 _ _ (e3 _ _ h2), ?_, fun b hm => ?_⟩
      · rw [rs, hbs, hb', if_neg (by decide), List.append_nil]
      · have z := hb b hm
        exact ⟨z.1, e4 _ _ (e3 _ _ z.2)⟩
  · obtain ⟨y3, y4, rfl, e2, bs, h2, hbs, hb⟩ := hP
    have en : (((2 ^ (h * w) : Nat) : Int) - 1).toNat = 2 ^ (h * w) - 1 := by omega
    rw [en] at hbs
    refine s_retP (ep_sortedRows (K := K) (bs := bs) (ev_var rfl) (sq_of h2) (fun b hm => sq_of (hb b hm).2)) fun v H3 e3 hv => ?_
    obtain ⟨l, rfl, hl, h3⟩ := hv
    refine q _ H3 (e2.trans e3) ?_
    have e4 : allRings h w = (bs.mergeSort fun p q => decide (p.2 ≤ q.2)).map (·.2) := by
      unfold allRings
      rw [← hbs]
      exact (List.map_mergeSort (r := fun p q : Addr × List Int => decide (p.2 ≤ q.2)) (s := fun p q : List Int => decide (p ≤ q)) (f := fun b : Addr × List Int => b.2) (fun _ _ _ _ => rfl)).symm
    rw [e4]
    exact NewLL.of (fresh_back e2 hl) h3 fun b hm => by
      have hm := List.mem_mergeSort.mp hm
      exact ⟨(hb b hm).1.1, e3 _ _ (hb b hm).2⟩

/-! ### data written in place, equalities of rows -/
def EvAD (K : PySem.W.Frag) (ta : TA) (σ : L2.St) (H : Hp) (ds : List PyData) : Prop := ∀ H1, Ex H H1 → ∀ Q : List V → Hp → Prop, (∀ vs H2, Ex H1 H2 → DpAll K H2 vs ds → Q vs H2) → ta σ H1 Q
section
variable {K : PySem.W.Frag} {σ : L2.St} {H H' : Hp} {ta tb te : TE} {tr : TA} {d : PyData} {ds : List PyData}
theorem ead_nil : EvAD K tNil σ H [] := fun H1 _ _ q => q [] H1 (Ex.refl H1) .nil
theorem ead_cons (h : EvD K ta σ H d) (hr : EvAD K tr σ H ds) : EvAD K (tCons ta tr) σ H (d :: ds) := fun H1 e _ q =>
  h H1 e _ fun v H2 e2 hv => hr H2 (e.trans e2) _ fun vs H3 e3 hs => q (v :: vs) H3 (e2.trans e3) (.cons (Dp.mono e3 hv) hs)
theorem ed_lst (h : EvAD K tr σ H ds) (hl : ds.length ≤ 1000) : EvD K (tLst tr) σ H (.list ds) := fun H1 e Q q =>
  h H1 e _ fun vs H2 e2 hs => ⟨sz_of (by rw [dpAll_len hs]; omega), fun p hp => q _ _ (e2.trans (Ex.new hp)) (.lst (sq_of upd_same) (DpAll.mono (Ex.new hp) hs))⟩
theorem ed_tup (h : EvAD K tr σ H ds) (hl : ds.length ≤ 1000) : EvD K (tTup tr) σ H (.tuple ds) := fun H1 e Q q =>
  h H1 e _ fun vs H2 e2 hs => ⟨sz_of (by rw [dpAll_len hs]; omega), fun p hp => q _ _ (e2.trans (Ex.new hp)) (.tup (st_of upd_same) (DpAll.mono (Ex.new hp) hs))⟩
theorem ed_int {i : Int} (h : Ev te σ H (.int i)) : EvD K te σ H (.int i) := ed_of h (.int i)
theorem ed_is {d' : PyData} (h : EvD K te σ H d) (e : d = d') : EvD K te σ H d' := e ▸ h
end
theorem lay_dI (ns : List Int) : PyData.canLay0 (dI ns) = true := by
  unfold dI
  rw [PyData.canLay0]
  exact lay_ints ns
theorem lay_rows : ∀ nss : List (List Int), PyData.canLayAll0 (nss.map dI) = true
  | [] => rfl
  | n :: r => by
    rw [List.map_cons, PyData.canLayAll0, lay_dI n, lay_rows r]
    rfl
theorem depth_rows : ∀ nss : List (List Int), PyData.depthAll (nss.map dI) ≤ 2
  | [] => by simp [PyData.depthAll]
  | n :: r => by
    have h1 := depth_rows r
    have h2 := depth_ints n
    rw [List.map_cons, PyData.depthAll]
    have h3 : (dI n).depth ≤ 2 := by
      unfold dI
      rw [PyData.depth]
      omega
    omega
theorem shaped_rows (nss : List (List Int)) : SeqAt.shaped (dII nss) = true := shaped_of_len (lay_rows nss) (by have := depth_rows nss; omega)
theorem eqvAll_ints : ∀ xs ys : List Int, PyData.eqvAll (xs.map PyData.int) (ys.map PyData.int) = decide (xs = ys)
  | [], [] => by simp [PyData.eqvAll]
  | [], _ :: _ => by simp [PyData.eqvAll]
  | _ :: _, [] => by simp [PyData.eqvAll]
  | x :: xs, y :: ys => by
    rw [List.map_cons, List.map_cons, PyData.eqvAll, eqvAll_ints xs ys, PyData.eqv]
    rw [Bool.eq_iff_iff]
    simp
theorem eqv_dI (xs ys : List Int) : PyData.eqv (dI xs) (dI ys) = decide (xs = ys) := by
  unfold dI
  rw [PyData.eqv]
  exact eqvAll_ints xs ys
theorem eqvAll_rows : ∀ xs ys : List (List Int), PyData.eqvAll (xs.map dI) (ys.map dI) = decide (xs = ys)
  | [], [] => by simp [PyData.eqvAll]
  | [], _ :: _ => by simp [PyData.eqvAll]
  | _ :: _, [] => by simp [PyData.eqvAll]
  | x :: xs, y :: ys => by
    rw [List.map_cons, List.map_cons, PyData.eqvAll, eqvAll_rows xs ys, eqv_dI]
    rw [Bool.eq_iff_iff]
    simp
theorem eqv_dII (xs ys : List (List Int)) : PyData.eqv (dII xs) (dII ys) = decide (xs = ys) := by
  unfold dII
  rw [PyData.eqv]
  exact eqvAll_rows xs ys
theorem any_dI (xs : List (List Int)) (y : List Int) : ((xs.map dI).any fun z => PyData.eqv z (dI y)) = decide (y ∈ xs) := by
  rw [List.any_map, Bool.eq_iff_iff]
  simp only [List.any_eq_true, Function.comp, eqv_dI, decide_eq_true_eq]
  exact ⟨fun ⟨x, h, e⟩ => e ▸ h, fun h => ⟨y, h, rfl⟩⟩
theorem ed_rowsAt {K : PySem.W.Frag} {σ : L2.St} {H : Hp} {te : TE} {a : Addr} {nss : List (List Int)} (h : Ev te σ H (.ref a)) (hr : RowsAt K H a nss) : EvD K te σ H (dII nss) := ed_of h hr.dp
theorem NewLL.rows {K : PySem.W.Frag} {H1 H2 : Hp} {v : V} {nss : List (List Int)} (h : NewLL H1 v H2 (ints2 nss)) : ∃ p, v = .ref p ∧ H1 p = none ∧ RowsAt K H2 p nss := by
  obtain ⟨p, bs, rfl, hp, h2, rfl, hb⟩ := h.bs
  refine ⟨p, rfl, hp, bs.map (·.1), ?_, ?_⟩
  · rw [List.map_map]
    exact sq_of h2
  · have : ∀ {cs : List (Addr × List Int)}, (∀ b ∈ cs, H2 b.1 = some (.lst (b.2.map V.int))) → Paired (fun (r : Addr) (ns : List Int) => SqL K H2 r (ns.map V.int)) (cs.map (·.1)) (cs.map (·.2)) := by
      intro cs
      induction cs with
      | nil => exact fun _ => .nil
      | cons c r ih => exact fun h => .cons (sq_of (h c List.mem_cons_self)) (ih fun b m => h b (List.mem_cons_of_mem _ m))
    exact this fun b m => (hb b m).2
/-! ### fits -/
theorem ep_numbers_ofS {K : PySem.W.Frag} {σ : L2.St} {H : Hp} {ta tb : TE} {E : XK} {h w : Nat} {cs : List Int} (ha : EvST K ta σ H [.int (h : Int), .int (w : Int)]) (gk : GOk h w) (hc : EvS K tb σ H (cs.map V.int)) :
    EvP (tCall (sp_numbers_of K) [] E (tCons ta (tCons tb tNil))) σ H (fun H1 v H2 => NewLL H1 v H2 (ints2 (numbersOf h w cs))) := fun H1 e Q q =>
  ha H1 e _ fun g H2 e2 hg => hc H2 (e.trans e2) _ fun c H3 e3 hc3 => ⟨g, c, h, w, cs, rfl, ex_t e3 hg, gk, hc3, fun v H4 e4 z => q v H4 ((e2.trans e3).trans e4) (z.back (e2.trans e3))⟩
/-- clues as the program may ask of them -/
structure CluesR (nss : List (List Int)) : Prop where
  g : GOk nss.length (nss.headD []).length
  few : nss.length * (nss.headD []).length ≤ 9
  len : ∀ ns ∈ nss, ns.length ≤ 1000
section
variable {K : PySem.W.Frag} {σ : L2.St} {H H' : Hp} {te : TE} {a : Addr} {nss : List (List Int)}
theorem ev_lenRows (h : Ev te σ H (.ref a)) (hr : RowsAt K H a nss) : Ev (tCB (rLenS K) (tCons te tNil)) σ H (.int (nss.length : Int)) := by
  obtain ⟨rs, h1, h2⟩ := hr
  refine ev_is (ev_lenS (K := K) (es_of h h1)) ?_
  rw [List.length_map, Paired.length h2]
theorem ev_row0 (h : Ev te σ H (.ref a)) (hr : RowsAt K H a nss) (hn : 1 ≤ nss.length) : ∃ r, Ev (tOp (rIxL K) te (tC (.int 0))) σ H (.ref r) ∧ SqL K H r ((nss.headD []).map V.int) := by
  obtain ⟨rs, h1, h2⟩ := hr
  cases h2 with
  | nil => simp at hn
  | cons h3 h4 => exact ⟨_, ev_ixS (es_of h h1) ev_c (atI_nat (j := 0) rfl), h3⟩
theorem est_dims (h : Ev te σ H (.ref a)) (hr : RowsAt K H a nss) (hn : 1 ≤ nss.length) : EvST K (tTup (tCons (tCB (rLenS K) (tCons te tNil)) (tCons (tCB (rLenS K) (tCons (tOp (rIxL K) te (tC (.int 0))) tNil)) tNil))) σ H [.int (nss.length : Int), .int ((nss.headD []).length : Int)] := by
  obtain ⟨r, e1, s1⟩ := ev_row0 h hr hn
  refine est_new (eu_tup (ea_cons (ev_lenRows h hr) (ea_cons (ev_is (ev_lenS (K := K) (es_of e1 s1)) ?_) ea_nil)) (by simp))
  rw [List.length_map]
end
theorem paired_len_get {α β : Type} {F : α → β → Prop} {l : List α} {m : List β} (h : Paired F l m) : l.length = m.length := Paired.length h
def sp_fits (K : PySem.W.Frag) : Sp := fun vs H Q _ => ∃ a c nss cs, vs = [.ref a, .ref c] ∧ RowsAt K H a nss ∧ CluesR nss ∧ SqL K H c ((cs : List Int).map V.int) ∧ RetV (.bl (fits nss cs)) H Q
theorem ev_fits {K : PySem.W.Frag} {σ : L2.St} {H : Hp} {ta : TA} {E : XK} {a c : Addr} {nss : List (List Int)} {cs : List Int} (ha : EvA ta σ H [.ref a, .ref c]) (hr : RowsAt K H a nss) (ck : CluesR nss) (hc : SqL K H c (cs.map V.int)) : Ev (tCall (sp_fits K) [] E ta) σ H (.bl (fits nss cs)) := fun H1 e Q q =>
  ha H1 e _ fun H2 e2 => ⟨a, c, nss, cs, rfl, hr.mono (e.trans e2), ck, ex_l (e.trans e2) hc, fun H3 e3 => q H3 (e2.trans e3)⟩
def t_fits (K : PySem.W.Frag) : TS := (tSeq (tAsg (tCall (sp_numbers_of K) [] E0 (tCons (tTup (tCons (tCB (rLenS K) (tCons (tVar 0) tNil)) (tCons (tCB (rLenS K) (tCons (tOp (rIxL K) (tVar 0) (tC (.int 0))) tNil)) tNil))) (tCons (tVar 1) tNil))) (gName 2))
      (tSeq (tFor (iZip K (tCons (tVar 0) (tCons (tVar 2) tNil))) (gTup K 2 (gCons (gName 3) (gCons (gName 4) gNil))) (tIfS (tB (tCB (rAny K) (tCons (tLc (iZip K (tCons (tVar 3) (tCons (tVar 4) tNil))) (gTup K 2 (gCons (gName 5) (gCons (gName 6) gNil))) tYes (tAndV (tOp oGe (tVar 5) (tC (.int 0))) (tOp rNe (tVar 5) (tVar 6))) [5, 6]) tNil))) (tRet (tC (.bl false))) tNext))
      (tRet (tC (.bl true)))))
theorem any_row {K : PySem.W.Frag} {σ : L2.St} {H : Hp} {r q : Addr} {ns ms : List Int} {i j : Nat} {k l : Nat} (hi : σ[i]? = some (some (.ref r))) (hj : σ[j]? = some (some (.ref q))) (hr : SqL K H r (ns.map V.int)) (hq : SqL K H q (ms.map V.int)) (hl : ns.length ≤ 1000)
    (hw : ∀ x y, wipe (((wipe σ [k, l]).set k (some x)).set l (some y)) [k, l] = wipe σ [k, l]) (h1 : ∀ x y : V, (((wipe σ [k, l]).set k (some x)).set l (some y))[k]? = some (some x)) (h2 : ∀ x y : V, (((wipe σ [k, l]).set k (some x)).set l (some y))[l]? = some (some y)) :
    Ev (tCB (rAny K) (tCons (tLc (iZip K (tCons (tVar i) (tCons (tVar j) tNil))) (gTup K 2 (gCons (gName k) (gCons (gName l) gNil))) tYes (tAndV (tOp oGe (tVar k) (tC (.int 0))) (tOp rNe (tVar k) (tVar l))) [k, l]) tNil)) σ H (.bl (!rowFits ns ms)) := by
  have w := el_lcZ (K := K) (t := tYes) (te := tAndV (tOp oGe (tVar k) (tC (.int 0))) (tOp rNe (tVar k) (tVar l))) (σ := σ) (H := H) (i := k) (j := l) (vs := [k, l]) (fun _ => true) (fun p => match p with | (.int x, .int y) => V.bl (decide (0 ≤ x) && !decide (x = y)) | _ => .non)
    (es_of (ev_var hi) hr) (es_of (ev_var hj) hq) (by rw [List.length_map]; omega) hw (fun _ _ _ _ => et_yes) (fun p H1 e1 hp _ => by
      obtain ⟨x, y⟩ := p
      have hz := List.of_mem_zip hp
      obtain ⟨m, _, rfl⟩ := List.mem_map.mp hz.1
      obtain ⟨n, _, rfl⟩ := List.mem_map.mp hz.2
      refine ev_is (ev_andV (a := decide (0 ≤ m)) (b := !decide (V.int m = V.int n)) (ev_op (x := .int m) (y := .int 0) (ev_var (h1 _ _)) ev_c rv_I0) (fun _ => ev_op (ev_var (h1 _ _)) (ev_var (h2 _ _)) (rv_ne rfl))) ?_
      simp)
  have e : ((((ns.map V.int).zip (ms.map V.int)).filter fun _ => true).map (fun p => match p with | (.int x, .int y) => V.bl (decide (0 ≤ x) && !decide (x = y)) | _ => .non)) = ((ns.zip ms).map fun p => decide (0 ≤ p.1) && !decide (p.1 = p.2)).map V.bl := by
    rw [filter_yes, List.zip_map, List.map_map, List.map_map]
    rfl
  rw [e] at w
  refine ev_is (ev_anyS (K := K) (es_new (K := K) w)) ?_
  unfold rowFits
  rw [Bool.not_not, List.any_map]
  rfl
theorem pure_fits {K : PySem.W.Frag} {vs : List V} {H : Hp} {Q : VK} {E : XK} {D : Ends} (hD : D.rt = Q) (h : sp_fits K vs H Q E) : t_fits K D (start ["clues", "cells", "told", "row", "line", "clue", "number"] vs) H := by
  obtain ⟨a, c, nss, cs, rfl, hr, ck, hc, q⟩ := h
  subst hD
  change t_fits K D [some (.ref a), some (.ref c), none, none, none, none, none] H
  have g1 := ck.g.1
  refine q_asgP (i := 2) (ep_numbers_ofS (K := K) (est_dims (ev_var rfl) hr g1) ck.g (es_of (ev_var rfl) hc)) fun v H1 e1 hv => ?_
  obtain ⟨p, rfl, hp, hn⟩ := hv.rows (K := K)
  have hr1 := hr.mono e1
  have isF : fits nss cs = (nss.zip (numbersOf nss.length (nss.headD []).length cs)).all fun p => rowFits p.1 p.2 := rfl
  have ln : (numbersOf nss.length (nss.headD []).length cs).length = nss.length := by
    unfold numbersOf
    rw [List.length_map, List.length_range]
  generalize numbersOf nss.length (nss.headD []).length cs = mss at *
  obtain ⟨rs, s1, s2⟩ := hr1
  obtain ⟨ls, l1, l2⟩ := hn
  have n1 := Paired.length s2
  have n2 := Paired.length l2
  refine q_forZ (K := K) (i := 3) (j := 4) (ev_var rfl) (ev_var rfl) s1 l1 (by rw [List.length_map, List.length_map]; omega) (fun n σ' H' => ∃ y3 y4, σ' = [some (.ref a), some (.ref c), some (.ref p), y3, y4, none, none] ∧ Ex H1 H' ∧ ∀ p ∈ (nss.zip mss).take n, rowFits p.1 p.2 = true)
    (fun H2 e2 => ⟨_, _, rfl, e2, by simp⟩) (fun n σ' H' hP => by obtain ⟨_, _, _, e2, _⟩ := hP; exact e2) (fun n x y σ' H2 T hx hy hP hT => ?_) (fun σ' H2 hP => ?_)
  · obtain ⟨y3, y4, rfl, e2, hk⟩ := hP
    rw [List.getElem?_map] at hx hy
    obtain ⟨r, hrn, rfl⟩ := Option.map_eq_some_iff.mp hx
    obtain ⟨l, hln, rfl⟩ := Option.map_eq_some_iff.mp hy
    obtain ⟨ns, hns, sr⟩ := paired_get s2 hrn
    obtain ⟨ms, hms, sl⟩ := paired_get l2 hln
    have e3 : Ex H1 (upd H2 T (.tup [.ref r, .ref l])) := e2.trans (Ex.new hT)
    have an := any_row (K := K) (σ := [some (.ref a), some (.ref c), some (.ref p), some (.ref r), some (.ref l), none, none]) (H := upd H2 T (.tup [.ref r, .ref l])) (i := 3) (j := 4) (k := 5) (l := 6) rfl rfl (ex_l e3 sr) (ex_l e3 sl) (ck.len ns (List.mem_of_getElem? hns)) (fun _ _ => rfl) (fun _ _ => rfl) (fun _ _ => rfl)
    have hz : (nss.zip mss)[n]? = some (ns, ms) := by
      rw [List.getElem?_zip_eq_some]
      exact ⟨hns, hms⟩
    refine s_when (et_B an) (fun hb H4 e4 => ?_) (fun hb H4 e4 => ⟨_, _, rfl, e3.trans e4, fun z hz' => ?_⟩)
    · refine s_ret ev_c fun H5 e5 => ?_
      have : fits nss cs = false := by
        rw [isF, List.all_eq_false]
        exact ⟨(ns, ms), List.mem_of_getElem? hz, by simpa using hb⟩
      rw [this] at q
      exact q H5 (((e1.trans e3).trans e4).trans e5)
    · rw [take_snoc hz] at hz'
      rcases List.mem_append.mp hz' with m | m
      · exact hk z m
      · have : z = (ns, ms) := by simpa using m
        rw [this]
        simpa using hb
  · obtain ⟨y3, y4, rfl, e2, hk⟩ := hP
    have hl : (rs.map V.ref).length = (nss.zip mss).length := by
      rw [List.length_map, List.length_zip]
      omega
    rw [hl, List.take_length] at hk
    refine s_ret ev_c fun H3 e3 => ?_
    have : fits nss cs = true := by
      rw [isF, List.all_eq_true]
      exact hk
    rw [this] at q
    exact q H3 ((e1.trans e2).trans e3)
/-! ### fitting_of -/
def sp_fitting_of (K : PySem.W.Frag) : Sp := fun vs H Q _ => ∃ a nss, vs = [.ref a] ∧ RowsAt K H a nss ∧ CluesR nss ∧ RetP (fun H1 v H2 => NewLL H1 v H2 (ints2 (fittingOf nss))) H Q
theorem ep_fitting_of {K : PySem.W.Frag} {σ : L2.St} {H : Hp} {ta : TA} {E : XK} {a : Addr} {nss : List (List Int)} (ha : EvA ta σ H [.ref a]) (hr : RowsAt K H a nss) (ck : CluesR nss) : EvP (tCall (sp_fitting_of K) [] E ta) σ H (fun H1 v H2 => NewLL H1 v H2 (ints2 (fittingOf nss))) := fun H1 e Q q =>
  ha H1 e _ fun H2 e2 => ⟨a, nss, rfl, hr.mono (e.trans e2), ck, fun v H3 e3 z => q v H3 (e2.trans e3) (z.back e2)⟩
def t_fitting_of (K : PySem.W.Frag) : TS := (tRet (tLc (iList K (tCall (sp_all_rings K) [] E0 (tCons (tTup (tCons (tCB (rLenS K) (tCons (tVar 0) tNil)) (tCons (tCB (rLenS K) (tCons (tOp (rIxL K) (tVar 0) (tC (.int 0))) tNil)) tNil))) tNil))) (gName 1) (tB (tCall (sp_fits K) [] E0 (tCons (tVar 0) (tCons (tVar 1) tNil)))) (tVar 1) [1]))
theorem pure_fitting_of {K : PySem.W.Frag} {vs : List V} {H : Hp} {Q : VK} {E : XK} {D : Ends} (hD : D.rt = Q) (h : sp_fitting_of K vs H Q E) : t_fitting_of K D (start ["clues", "cells"] vs) H := by
  obtain ⟨a, nss, rfl, hr, ck, q⟩ := h
  subst hD
  change t_fitting_of K D [some (.ref a), none] H
  have g1 := ck.g.1
  refine s_retP (ep_lcRows (K := K) (j := 1) (vs := [1]) (fits nss) (ep_all_rings (K := K) (est_dims (ev_var rfl) hr g1) ck.g ck.few) (by have := allRings_len nss.length (nss.headD []).length ck.few; omega) (fun _ => rfl) (fun _ => rfl) (fun ns p H1 e1 hm h1 => ?_)) fun v H1 e1 hv => q v H1 e1 hv
  exact et_B (ev_fits (ea_cons (ev_var rfl) (ea_cons (ev_var rfl) ea_nil)) (hr.mono e1) ck (sq_of h1))
/-! ### One, Two, Never -/
def fldsC (u : V) : List (Str × V) := [("cells", u)]
theorem fldsC_cells {u : V} : (fldsC u).lookup ("cells" : Str) = some u := lk_self
theorem fldsC_shows {u : V} : (fldsC u).lookup ("shows" : Str) = none := lk_ne shows_cells
/-- a new instance of One, Two: new lists -/
def NewOne (C : Ad) (xs : List V) (H1 : Hp) (v : V) (H2 : Hp) : Prop := ∃ p dx l, v = .ref p ∧ H1 p = none ∧ H1 l = none ∧ H2 p = some (.ins C.cOne dx (fldsC (.ref l))) ∧ H2 l = some (.lst xs)
def NewTwo (C : Ad) (xs ys : List V) (H1 : Hp) (v : V) (H2 : Hp) : Prop := ∃ p dx l m, v = .ref p ∧ H1 p = none ∧ H1 l = none ∧ H1 m = none ∧ l ≠ m ∧ H2 p = some (.ins C.cTwo dx (flds2 (.ref l) (.ref m))) ∧ H2 l = some (.lst xs) ∧ H2 m = some (.lst ys)
def sp_One_init (K : PySem.W.Frag) (C : Ad) : Sp := fun vs H Q _ => ∃ p dx a xs, vs = [.ref p, .ref a] ∧ H p = some (.ins C.cOne dx []) ∧ SqL K H a xs ∧ ∀ l H2, H l = none → ButP p H H2 → H2 p = some (.ins C.cOne dx (fldsC (.ref l))) → H2 l = some (.lst xs) → Q .non H2
def t_One_init (K : PySem.W.Frag) : TS := (sFld K (tVar 0) (tCB (rListS K) (tCons (tVar 1) tNil)) "cells")
theorem pure_One_init {K : PySem.W.Frag} {C : Ad} {vs : List V} {H : Hp} {Q : VK} {E : XK} {D : Ends} (hD : D.nx = fun _ H' => Q .non H') (cf_One : Cf K C.cOne ["cells"]) (h : sp_One_init K C vs H Q E) : t_One_init K D (start ["self", "cells"] vs) H := by
  obtain ⟨p, dx, a, xs, rfl, hp, ha, q⟩ := h
  change t_One_init K D [some (.ref p), some (.ref a)] H
  refine s_fldL (xs := xs) (el_listS (es_of (ev_var rfl) ha)) (ev_var rfl) hp cf_One (by simp) (by simp) fun l H1 hl e1 h1 => ?_
  rw [hD]
  have ne : l ≠ p := (ne_of_none hp hl).symm
  refine q l _ hl (fun b o nb hb => ?_) upd_same ?_
  · rw [upd_ne nb]
    exact e1 _ _ hb
  · rw [upd_ne ne]
    exact h1
theorem ep_One {K : PySem.W.Frag} {C : Ad} {σ : L2.St} {H : Hp} {ta : TE} {E : XK} {xs : List V} (ha : EvS K ta σ H xs) : EvP (tMake C.cOne (sp_One_init K C) [] E (tCons ta tNil)) σ H (NewOne C xs) := fun H1 e Q q =>
  ha H1 e _ fun a H2 e2 hx x dx hx1 hdx ne => by
    have e3 : Ex H2 (upd (upd H2 dx (.own x)) x (.ins C.cOne dx [])) := fun b o hb => by rw [upd_ne (ne_of_none hb hx1), upd_ne (ne_of_none hb hdx)]; exact hb
    refine ⟨x, dx, a, xs, rfl, upd_same, ex_l e3 hx, fun l H3 hl b h3 h4 => ⟨rfl, q _ H3 (e2.trans (made_ex hx1 hdx b)) ⟨x, dx, l, rfl, fresh_back e2 hx1, fresh_back (e2.trans e3) hl, h3, h4⟩⟩⟩
def sp_Two_init (K : PySem.W.Frag) (C : Ad) : Sp := fun vs H Q _ => ∃ p dx a b xs ys, vs = [.ref p, .ref a, .ref b] ∧ H p = some (.ins C.cTwo dx []) ∧ SqL K H a xs ∧ SqL K H b ys ∧ a ≠ p ∧ b ≠ p ∧ ∀ l m H2, H l = none → H m = none → l ≠ m → ButP p H H2 → H2 p = some (.ins C.cTwo dx (flds2 (.ref l) (.ref m))) → H2 l = some (.lst xs) → H2 m = some (.lst ys) → Q .non H2
def t_Two_init (K : PySem.W.Frag) : TS := (tSeq (sFld K (tVar 0) (tCB (rListS K) (tCons (tVar 1) tNil)) "one")
      (sFld K (tVar 0) (tCB (rListS K) (tCons (tVar 2) tNil)) "other"))
theorem sql_but {K : PySem.W.Frag} {p b : Addr} {H H2 : Hp} {xs : List V} (h : ButP p H H2) (ne : b ≠ p) (hs : SqL K H b xs) : SqL K H2 b xs := by
  rcases hs with (hs | ⟨o, hs⟩) | hs
  · exact .inl (.inl (h _ _ ne hs))
  · exact .inl (.inr ⟨o, h _ _ ne hs⟩)
  · exact .inr hs
theorem pure_Two_init {K : PySem.W.Frag} {C : Ad} {vs : List V} {H : Hp} {Q : VK} {E : XK} {D : Ends} (hD : D.nx = fun _ H' => Q .non H') (cf_Two : Cf K C.cTwo ["one", "other"]) (h : sp_Two_init K C vs H Q E) : t_Two_init K D (start ["self", "one", "other"] vs) H := by
  obtain ⟨p, dx, a, b, xs, ys, rfl, hp, ha, hb, na, nb, q⟩ := h
  change t_Two_init K D [some (.ref p), some (.ref a), some (.ref b)] H
  refine q_fldL (xs := xs) (el_listS (es_of (ev_var rfl) ha)) (ev_var rfl) hp cf_Two (by simp) (by simp) fun l H1 hl e1 h1 => ?_
  have lp : l ≠ p := (ne_of_none hp hl).symm
  have bt : ButP p H (upd H1 p (.ins C.cTwo dx (putF "one" (.ref l) []))) := fun c o nc hc => by rw [upd_ne nc]; exact e1 _ _ hc
  refine s_fldL (xs := ys) (el_listS (es_of (ev_var rfl) (sql_but bt nb hb))) (ev_var rfl) upd_same cf_Two (by simp) (by simp [putF]) fun m H2 hm e2 h2 => ?_
  rw [hD]
  have h1' : (upd H1 p (.ins C.cTwo dx (putF "one" (.ref l) []))) l = some (.lst xs) := by rw [upd_ne lp]; exact h1
  have mp : m ≠ p := fun z => by rw [z, upd_same] at hm; cases hm
  have lm : l ≠ m := fun z => by rw [← z, h1'] at hm; cases hm
  have hm1 : H1 m = none := by rw [upd_ne mp] at hm; exact hm
  refine q l m _ hl (fresh_back e1 hm1) lm (fun c o nc hc => ?_) ?_ ?_ ?_
  · rw [upd_ne nc]
    exact e2 _ _ (bt _ _ nc hc)
  · rw [upd_same]
    exact congrArg (fun z => some (HO.ins C.cTwo dx z)) (put_ne one_other)
  · rw [upd_ne lp]
    exact e2 _ _ h1'
  · rw [upd_ne mp]
    exact h2
theorem sql_ne {K : PySem.W.Frag} {H : Hp} {a x : Addr} {xs : List V} (h : SqL K H a xs) (hk : ∀ o, K.lookup a = some o → a ≠ x) (hx : H x = none) : a ≠ x := by
  rcases h with (h | ⟨o, h⟩) | ⟨o, its, n, h, _⟩
  · exact ne_of_none h hx
  · exact ne_of_none h hx
  · exact hk o h
theorem ep_Two {K : PySem.W.Frag} {C : Ad} {σ : L2.St} {H : Hp} {ta tb : TE} {E : XK} {xs ys : List V} {a b : Addr} (ha : Ev ta σ H (.ref a)) (hb : Ev tb σ H (.ref b)) (hx : H a = some (.lst xs)) (hy : H b = some (.lst ys)) : EvP (tMake C.cTwo (sp_Two_init K C) [] E (tCons ta (tCons tb tNil))) σ H (NewTwo C xs ys) := fun H1 e Q q =>
  ha H1 e _ fun H2 e2 => hb H2 (e.trans e2) _ fun H3 e3 x dx hx1 hdx ne => by
    have e4 : Ex H3 (upd (upd H3 dx (.own x)) x (.ins C.cTwo dx [])) := fun c o hc => by rw [upd_ne (ne_of_none hc hx1), upd_ne (ne_of_none hc hdx)]; exact hc
    have e14 := (e.trans e2).trans e3
    refine ⟨x, dx, a, b, xs, ys, rfl, upd_same, sq_of (e4 _ _ (e14 _ _ hx)), sq_of (e4 _ _ (e14 _ _ hy)), ne_of_none (e14 _ _ hx) hx1, ne_of_none (e14 _ _ hy) hx1, fun l m H4 hl hm lm bt h5 h6 h7 => ⟨rfl, q _ H4 ((e2.trans e3).trans (made_ex hx1 hdx bt)) ⟨x, dx, l, m, rfl, fresh_back (e2.trans e3) hx1, fresh_back ((e2.trans e3).trans e4) hl, fresh_back ((e2.trans e3).trans e4) hm, lm, h5, h6, h7⟩⟩⟩
def sp_One_shows (K : PySem.W.Frag) (C : Ad) : Sp := fun vs H Q _ => ∃ p a dx l nss ns, vs = [.ref p, .ref a] ∧ H p = some (.ins C.cOne dx (fldsC (.ref l))) ∧ SqL K H l ((ns : List Int).map V.int) ∧ RowsAt K H a nss ∧ CluesR nss ∧ RetV (.bl (decide (fittingOf nss = [ns]))) H Q
def t_One_shows (K : PySem.W.Frag) : TS := (tRet (tOp (rEqD K) (tCall (sp_fitting_of K) [] E0 (tCons (tVar 1) tNil)) (tLst (tCons (tFld K (tVar 0) "cells") tNil))))
theorem pure_One_shows {K : PySem.W.Frag} {C : Ad} {vs : List V} {H : Hp} {Q : VK} {E : XK} {D : Ends} (hD : D.rt = Q) (cf_One : Cf K C.cOne ["cells"]) (h : sp_One_shows K C vs H Q E) : t_One_shows K D (start ["self", "clues"] vs) H := by
  obtain ⟨p, a, dx, l, nss, ns, rfl, hp, hl, hr, ck, q⟩ := h
  subst hD
  change t_One_shows K D [some (.ref p), some (.ref a)] H
  refine s_ret (ev_is (ev_eqD (d := dII (fittingOf nss)) (d' := dII [ns]) (ed_p (ep_fitting_of (ea_cons (ev_var rfl) ea_nil) hr ck) fun _ _ _ z => z.dp) (ed_lst (ead_cons (ed_of (ev_fld (ev_var rfl) hp cf_One (by simp) fldsC_cells) (dp_ints hl)) ead_nil) (by simp)) (shaped_rows _) (shaped_rows _)) (by rw [eqv_dII])) fun H1 e1 => q H1 e1
def twoShows (nss : List (List Int)) (a b : List Int) : Bool := !decide (a = b) && (decide (a ∈ fittingOf nss) && decide (b ∈ fittingOf nss))
def sp_Two_shows (K : PySem.W.Frag) (C : Ad) : Sp := fun vs H Q _ => ∃ p a dx l m nss ns ms, vs = [.ref p, .ref a] ∧ H p = some (.ins C.cTwo dx (flds2 (.ref l) (.ref m))) ∧ SqL K H l ((ns : List Int).map V.int) ∧ SqL K H m ((ms : List Int).map V.int) ∧ RowsAt K H a nss ∧ CluesR nss ∧ RetV (.bl (twoShows nss ns ms)) H Q
def t_Two_shows (K : PySem.W.Frag) : TS := (tSeq (tAsg (tCall (sp_fitting_of K) [] E0 (tCons (tVar 1) tNil)) (gName 2))
      (tRet (tAndV (tOp (rNeD K) (tFld K (tVar 0) "one") (tFld K (tVar 0) "other")) (tAndV (tOp (rInD K) (tFld K (tVar 0) "one") (tVar 2)) (tOp (rInD K) (tFld K (tVar 0) "other") (tVar 2))))))
theorem pure_Two_shows {K : PySem.W.Frag} {C : Ad} {vs : List V} {H : Hp} {Q : VK} {E : XK} {D : Ends} (hD : D.rt = Q) (cf_Two : Cf K C.cTwo ["one", "other"]) (h : sp_Two_shows K C vs H Q E) : t_Two_shows K D (start ["self", "clues", "found"] vs) H := by
  obtain ⟨p, a, dx, l, m, nss, ns, ms, rfl, hp, hl, hm, hr, ck, q⟩ := h
  subst hD
  change t_Two_shows K D [some (.ref p), some (.ref a), none] H
  refine q_asgP (i := 2) (ep_fitting_of (ea_cons (ev_var rfl) ea_nil) hr ck) fun v H1 e1 hv => ?_
  have dv : Dp K H1 v (dII (fittingOf nss)) := hv.dp
  have f1 : EvD K (tFld K (tVar 0) "one") [some (.ref p), some (.ref a), some v] H1 (dI ns) := ed_of (ev_fld (ev_var rfl) (e1 _ _ hp) cf_Two (by simp) flds2_one) (dp_ints (ex_l e1 hl))
  have f2 : EvD K (tFld K (tVar 0) "other") [some (.ref p), some (.ref a), some v] H1 (dI ms) := ed_of (ev_fld (ev_var rfl) (e1 _ _ hp) cf_Two (by simp) flds2_other) (dp_ints (ex_l e1 hm))
  refine s_ret (ev_is (ev_andV (a := !decide (ns = ms)) (ev_is (ev_neD f1 f2 (shaped_ints _) (shaped_ints _)) (by rw [eqv_dI])) (fun _ => ev_andV (a := decide (ns ∈ fittingOf nss)) (b := decide (ms ∈ fittingOf nss)) (ev_is (ev_inD (ds := (fittingOf nss).map dI) f1 (ed_of (ev_var rfl) dv) (shaped_ints _) (shaped_rows _)) (by rw [any_dI])) (fun _ => ev_is (ev_inD (ds := (fittingOf nss).map dI) f2 (ed_of (ev_var rfl) dv) (shaped_ints _) (shaped_rows _)) (by rw [any_dI])))) rfl) fun H2 e2 => q H2 (e1.trans e2)
def sp_Never_shows (K : PySem.W.Frag) : Sp := fun vs H Q _ => ∃ p a nss, vs = [.ref p, .ref a] ∧ RowsAt K H a nss ∧ CluesR nss ∧ RetV (.bl (decide (fittingOf nss = []))) H Q
def t_Never_shows (K : PySem.W.Frag) : TS := (tRet (tOp (rEqD K) (tCall (sp_fitting_of K) [] E0 (tCons (tVar 1) tNil)) (tLst tNil)))
theorem pure_Never_shows {K : PySem.W.Frag} {vs : List V} {H : Hp} {Q : VK} {E : XK} {D : Ends} (hD : D.rt = Q) (h : sp_Never_shows K vs H Q E) : t_Never_shows K D (start ["self", "clues"] vs) H := by
  obtain ⟨p, a, nss, rfl, hr, ck, q⟩ := h
  subst hD
  change t_Never_shows K D [some (.ref p), some (.ref a)] H
  refine s_ret (ev_is (ev_eqD (d := dII (fittingOf nss)) (d' := dII []) (ed_p (ep_fitting_of (ea_cons (ev_var rfl) ea_nil) hr ck) fun _ _ _ z => z.dp) (ed_lst ead_nil (by simp)) (shaped_rows _) (shaped_rows _)) (by rw [eqv_dII])) fun H1 e1 => q H1 e1

/-! ### judged -/
inductive Ans
  | ring
  | split (x y : Int)
  | hole (x : Int)
deriving DecidableEq
def judgedM (h w : Nat) (cs : List Int) : Ans :=
  if (spread h w (cs.headD 0) cs).length < cs.length then .split (cs.headD 0) ((cs.filter fun c => !decide (c ∈ spread h w (cs.headD 0) cs)).headD 0)
  else match firstInner h w cs with
    | none => .ring
    | some i => .hole (i : Int)
def NewAns (C : Ad) : Ans → Hp → V → Hp → Prop
  | .ring => NewI C.cRing []
  | .split x y => NewI C.cSplit (flds2 (.int x) (.int y))
  | .hole x => NewI C.cHole (flds1 (.int x))
theorem NewAns.back {C : Ad} {a : Ans} {H0 H1 H2 : Hp} {v : V} (e : Ex H0 H1) (h : NewAns C a H1 v H2) : NewAns C a H0 v H2 := by
  cases a <;> exact NewI.back e h
theorem NewAns.on {C : Ad} {a : Ans} {H1 H2 H3 : Hp} {v : V} (e : Ex H2 H3) (h : NewAns C a H1 v H2) : NewAns C a H1 v H3 := by
  cases a <;> exact NewI.on e h
/-- a door with a grid and cells: refused, or R -/
def DoorGC (K : PySem.W.Frag) (C : Ad) (v u : V) (H : Hp) (Q : VK) (E : XK) (ok : Addr → Nat → Nat → List Int → Prop) : Prop :=
  (BadG K H v ∧ RetE C.cBadGrid H E) ∨
   (∃ g h w, v = .ref g ∧ SqT K H g [.int ((h : Nat) : Int), .int ((w : Nat) : Int)] ∧ GOk h w ∧ ((BadC K H ((h : Int) * w) u ∧ RetE C.cBadCells H E) ∨
     ∃ c cs, u = .ref c ∧ SqL K H c (cs.map V.int) ∧ COk h w cs ∧ ok c h w cs))
theorem BadC.mono {K : PySem.W.Frag} {H H' : Hp} {m : Int} {v : V} (e : Ex H H') (hb : BadC K H m v) : BadC K H' m v := by
  rcases hb with ⟨n, hk, hn⟩ | ⟨a, xs, ds, rfl, h1, h2, h3⟩
  · exact .inl ⟨n, hk.mono e, hn⟩
  · exact .inr ⟨a, xs, ds, rfl, ex_l e h1, DpAll.mono e h2, h3⟩
theorem BadG.mono {K : PySem.W.Frag} {H H' : Hp} {v : V} (e : Ex H H') (hb : BadG K H v) : BadG K H' v := by
  rcases hb with ⟨n, hk, hn⟩ | ⟨a, xs, rfl, h1, h2, h3, h4⟩
  · exact .inl ⟨n, hk.mono e, hn⟩
  · exact .inr ⟨a, xs, rfl, ex_t e h1, h2, fun x hx => (h3 x hx).imp fun n z => z.mono e, h4⟩
/-- the two checks ahead of a door's body -/
theorem q_checks {K : PySem.W.Frag} {C : Ad} {σ : L2.St} {H : Hp} {E : XK} {D : Ends} {tz : TS} {v u : V} {Q : VK} {ok : Addr → Nat → Nat → List Int → Prop} (h0 : σ[0]? = some (some v)) (h1 : σ[1]? = some (some u)) (h : DoorGC K C v u H Q E ok)
    (k : ∀ g h w c cs H1, v = .ref g → u = .ref c → Ex H H1 → SqT K H1 g [.int ((h : Nat) : Int), .int ((w : Nat) : Int)] → GOk h w → SqL K H1 c (cs.map V.int) → COk h w cs → ok c h w cs → tz D σ H1) :
    tSeq (tDrop (tCall (sp_check_grid K C) [] E (tCons (tVar 0) tNil))) (tSeq (tDrop (tCall (sp_check_cells K C) [] E (tCons (tVar 0) (tCons (tVar 1) tNil)))) tz) D σ H := by
  rcases h with ⟨hb, q⟩ | ⟨g, h, w, rfl, hs, gk, h⟩
  · exact ⟨v, h0, v, rfl, .inr ⟨hb, q⟩⟩
  · refine q_drop (ev_check_grid (ea_cons (ev_var h0) ea_nil) hs gk) fun H1 e1 => ?_
    rcases h with ⟨hb, q⟩ | ⟨c, cs, rfl, hc, ck, hok⟩
    · exact ⟨_, h0, u, h1, g, h, w, u, rfl, ex_t e1 hs, gk, .inr ⟨hb.mono e1, fun H2 e2 => q H2 (e1.trans e2)⟩⟩
    · refine q_drop (ev_check_cells (ea_cons (ev_var h0) (ea_cons (ev_var h1) ea_nil)) (ex_t e1 hs) gk (ex_l e1 hc) ck) fun H2 e2 => ?_
      exact k g h w c cs H2 rfl rfl (e1.trans e2) (ex_t (e1.trans e2) hs) gk (ex_l (e1.trans e2) hc) ck hok
def sp_judged (K : PySem.W.Frag) (C : Ad) : Sp := fun vs H Q E => ∃ v u, vs = [v, u] ∧ DoorGC K C v u H Q E fun _ h w cs => RetP (NewAns C (judgedM h w cs)) H Q
theorem ep_judged {K : PySem.W.Frag} {C : Ad} {σ : L2.St} {H : Hp} {ta tb : TE} {E : XK} {h w : Nat} {cs : List Int} (ha : EvST K ta σ H [.int (h : Int), .int (w : Int)]) (gk : GOk h w) (hc : EvS K tb σ H (cs.map V.int)) (ck : COk h w cs) :
    EvP (tCall (sp_judged K C) [] E (tCons ta (tCons tb tNil))) σ H (NewAns C (judgedM h w cs)) := fun H1 e Q q =>
  ha H1 e _ fun g H2 e2 hg => hc H2 (e.trans e2) _ fun c H3 e3 hc3 => ⟨_, _, rfl, .inr ⟨g, h, w, rfl, ex_t e3 hg, gk, .inr ⟨c, cs, rfl, hc3, ck, fun v H4 e4 z => q v H4 ((e2.trans e3).trans e4) (z.back (e2.trans e3))⟩⟩⟩
def t_judged (K : PySem.W.Frag) (C : Ad) (E : XK) : TS := (tSeq (tDrop (tCall (sp_check_grid K C) [] E (tCons (tVar 0) tNil)))
      (tSeq (tDrop (tCall (sp_check_cells K C) [] E (tCons (tVar 0) (tCons (tVar 1) tNil))))
      (tSeq (tAsg (tCall (sp_spread K) [] E0 (tCons (tVar 0) (tCons (tOp (rIxL K) (tVar 1) (tC (.int 0))) (tCons (tVar 1) tNil)))) (gName 2))
      (tSeq (tIfS (tTest (tOp oLt (tCB (rLenS K) (tCons (tVar 2) tNil)) (tCB (rLenS K) (tCons (tVar 1) tNil)))) (tRet (tMake C.cSplit (sp_Split_init K C) [] E0 (tCons (tOp (rIxL K) (tVar 1) (tC (.int 0))) (tCons (tOp (rIxL K) (tLc (iList K (tVar 1)) (gName 4) (tTest (tOp (rIn K true) (tVar 4) (tVar 2))) (tVar 4) [4]) (tC (.int 0))) tNil)))) tNext)
      (tSeq (tAsg (tCall (sp_first_inner K) [] E0 (tCons (tVar 0) (tCons (tVar 1) tNil))) (gName 3))
      (tRet (tIf (tTest (tOp rIsN (tVar 3) (tC .non))) (tBare C.cRing) (tMake C.cHole (sp_Hole_init K C) [] E0 (tCons (tVar 3) tNil)))))))))
theorem rising_nodup {cs : List Int} (h : Rising cs) : cs.Nodup := List.Pairwise.imp (fun a => by omega) h
theorem headD_of {α : Type} {l : List α} (d : α) (h : l ≠ []) : l[0]? = some (l.headD d) := by
  cases l with
  | nil => exact absurd rfl h
  | cons a r => rfl
theorem ep_if {σ : L2.St} {H : Hp} {t : TT} {ta tb : TE} {b : Bool} {R : Hp → V → Hp → Prop} (hR : ∀ {H0 H1 v H2}, Ex H0 H1 → R H1 v H2 → R H0 v H2) (h : EvT t σ H b) (h1 : b = true → EvP ta σ H R) (h2 : b = false → EvP tb σ H R) : EvP (tIf t ta tb) σ H R := fun H1 e Q q => h H1 e _ fun H2 e2 => by
  cases b with
  | true =>
    show ta σ H2 Q
    exact h1 rfl H2 (e.trans e2) Q fun v H3 e3 z => q v H3 (e2.trans e3) (hR e2 z)
  | false =>
    show tb σ H2 Q
    exact h2 rfl H2 (e.trans e2) Q fun v H3 e3 z => q v H3 (e2.trans e3) (hR e2 z)
theorem pure_judged {K : PySem.W.Frag} {C : Ad} {vs : List V} {H : Hp} {Q : VK} {E : XK} {D : Ends} (hD : D.rt = Q) (h : sp_judged K C vs H Q E) : t_judged K C E D (start ["grid", "cells", "near", "inner", "cell"] vs) H := by
  obtain ⟨v, u, rfl, hd⟩ := h
  subst hD
  change t_judged K C E D [some v, some u, none, none, none] H
  refine q_checks rfl rfl hd fun g h w c cs H1 hv hu e1 hs gk hc ck q => ?_
  subst hv hu
  clear hd
  have cl := cok_len gk ck
  have it : Ev (tOp (rIxL K) (tVar 1) (tC (.int 0))) [some (.ref g), some (.ref c), none, none, none] H1 (.int (cs.headD 0)) := ev_ixS (es_of (ev_var rfl) hc) ev_c (at_first ck.1)
  refine q_asgL (i := 2) (el_spread (E := E0) (K := K) (ta := tCons (tVar 0) (tCons (tOp (rIxL K) (tVar 1) (tC (.int 0))) (tCons (tVar 1) tNil))) (ea_cons (ev_var rfl) (ea_cons it (ea_cons (ev_var rfl) ea_nil))) hs gk hc (by omega)) fun n H2 hn e2 h2 => ?_
  have hc2 := ex_l e2 hc
  have hs2 := ex_t e2 hs
  have so := spread_ok h (w := w) gk.2.2.1 (cs.headD 0) cs
  have jm : judgedM h w cs = if (spread h w (cs.headD 0) cs).length < cs.length then .split (cs.headD 0) ((cs.filter fun c => !decide (c ∈ spread h w (cs.headD 0) cs)).headD 0)
    else match firstInner h w cs with | none => .ring | some i => .hole (i : Int) := rfl
  generalize spread h w (cs.headD 0) cs = near at *
  have t := et_test (ev_op (r := oLt) (σ := [some (.ref g), some (.ref c), some (.ref n), none, none]) (H := H2) (ev_lenS (K := K) (ta := tVar 2) (es_of (ev_var rfl) (sq_of h2))) (ev_lenS (K := K) (ta := tVar 1) (es_of (ev_var rfl) hc2)) rv_I0)
  rw [List.length_map, List.length_map] at t
  refine q_when t (fun hb H3 e3 => ?_) (fun hb H3 e3 => ?_)
  · have hlt : near.length < cs.length := by have := of_decide_eq_true hb; omega
    rw [if_pos hlt] at jm
    have ne : (cs.filter fun c => !decide (c ∈ near)) ≠ [] := by
      intro z
      have all := List.filter_eq_nil_iff.mp z
      have : ∀ o ∈ cs, o ∈ near := fun o ho => by simpa using all o ho
      have := nodup_sub (rising_nodup ck.2.2) this
      omega
    have hc3 := ex_l e3 hc2
    have l := el_lcI (K := K) (σ := [some (.ref g), some (.ref c), some (.ref n), none, none]) (H := H3) (ns := cs) (tl := tVar 1) (t := tTest (tOp (rIn K true) (tVar 4) (tVar 2))) (te := tVar 4) (j := 4) (vs := [4]) (fun o => !decide (o ∈ near)) V.int (es_of (ev_var rfl) hc3) (by omega) (fun x => rfl)
      (fun n' H4 e4 _ => et_test (ev_notIn (ev_var rfl) (es_of (ev_var rfl) (sq_of (e4 _ _ (e3 _ _ h2)))))) (fun n' H4 e4 _ _ => ev_var rfl)
    refine s_retP (ep_Split (K := K) (C := C) (ea_cons (ev_ixS (es_of (ev_var rfl) hc3) ev_c (at_first ck.1)) (ea_cons (ev_ixS (es_new l) ev_c (at_first ne)) ea_nil))) fun v H4 e4 z => ?_
    refine q v H4 (((e1.trans e2).trans e3).trans e4) ?_
    rw [jm]
    exact NewI.back ((e1.trans e2).trans e3) z
  · have hlt : ¬ near.length < cs.length := by have := of_decide_eq_false hb; omega
    rw [if_neg hlt] at jm
    have hs3 := ex_t e3 hs2
    have hc3 := ex_l e3 hc2
    refine q_asg (i := 3) (ev_first_inner (K := K) (ea_cons (ev_var rfl) (ea_cons (ev_var rfl) ea_nil)) hs3 gk hc3) fun H4 e4 => ?_
    refine s_retP (R := NewAns C (judgedM h w cs)) (ep_if (b := (firstInner h w cs).isNone) (fun e z => z.back e) (et_is (et_test (ev_op (ev_var rfl) ev_c rv_isN)) (opt_is _)) (fun hb' => ?_) (fun hb' => ?_)) fun v H5 e5 z => q v H5 ((((e1.trans e2).trans e3).trans e4).trans e5) (z.back (((e1.trans e2).trans e3).trans e4))
    · cases hf : firstInner h w cs with
      | none =>
        rw [hf] at jm
        rw [jm]
        exact ep_bare
      | some i => rw [hf] at hb'; cases hb'
    · cases hf : firstInner h w cs with
      | none => rw [hf] at hb'; cases hb'
      | some i =>
        rw [hf] at jm
        rw [jm]
        exact ep_Hole (ea_cons (ev_var rfl) ea_nil)
/-! ### check_few, rings -/
def DoorF (K : PySem.W.Frag) (C : Ad) (v : V) (H : Hp) (E : XK) (ok : Addr → Nat → Nat → Prop) : Prop :=
  (BadG K H v ∧ RetE C.cBadGrid H E) ∨ (∃ g h w, v = .ref g ∧ SqT K H g [.int ((h : Nat) : Int), .int ((w : Nat) : Int)] ∧ GOk h w ∧ ((9 < h * w ∧ RetE C.cBadGrid H E) ∨ (h * w ≤ 9 ∧ ok g h w)))
def sp_check_few (K : PySem.W.Frag) (C : Ad) : Sp := fun vs H Q E => ∃ v, vs = [v] ∧ DoorF K C v H E fun _ _ _ => RetV .non H Q
def t_check_few (K : PySem.W.Frag) (C : Ad) (E : XK) : TS := (tSeq (tDrop (tCall (sp_check_grid K C) [] E (tCons (tVar 0) tNil)))
      (tIfS (tTest (tOp oGt (tOp oMul (tOp (rIxT K) (tVar 0) (tC (.int 0))) (tOp (rIxT K) (tVar 0) (tC (.int 1)))) (tC (.int 9)))) (tRaise E (.ref C.cBadGrid)) tNext))
theorem pure_check_few {K : PySem.W.Frag} {C : Ad} {vs : List V} {H : Hp} {Q : VK} {E : XK} {D : Ends} (hD : D.nx = fun _ H' => Q .non H') (h : sp_check_few K C vs H Q E) : t_check_few K C E D (start ["grid"] vs) H := by
  obtain ⟨v, rfl, h⟩ := h
  change t_check_few K C E D [some v] H
  rcases h with ⟨hb, q⟩ | ⟨g, h, w, rfl, hs, gk, hk⟩
  · exact ⟨v, rfl, v, rfl, .inr ⟨hb, q⟩⟩
  · refine q_drop (ev_check_grid (ea_cons (ev_var rfl) ea_nil) hs gk) fun H1 e1 => ?_
    have gb := gk
    obtain ⟨g1, g2, g3, g4⟩ := gb
    have hs1 := ex_t e1 hs
    have cast : ((h * w : Nat) : Int) = (h : Int) * w := Int.natCast_mul h w
    have t : EvT (tTest (tOp oGt (tOp oMul (tOp (rIxT K) (tVar 0) (tC (.int 0))) (tOp (rIxT K) (tVar 0) (tC (.int 1)))) (tC (.int 9)))) [some (.ref g)] H1 (decide ((9 : Int) < (h : Int) * w)) := by walk_at "et"
    rcases hk with ⟨hb, q⟩ | ⟨hb, q⟩
    · exact s_when t (fun _ H2 e2 => q H2 (e1.trans e2)) (fun z => by have := of_decide_eq_false z; omega)
    · refine s_when t (fun z => by have := of_decide_eq_true z; omega) (fun _ H2 e2 => ?_)
      rw [hD]
      exact q H2 (e1.trans e2)
def sp_rings (K : PySem.W.Frag) (C : Ad) : Sp := fun vs H Q E => ∃ v, vs = [v] ∧ DoorF K C v H E fun _ h w => RetP (fun H1 v H2 => NewLL H1 v H2 (ints2 (allRings h w))) H Q
theorem ep_rings {K : PySem.W.Frag} {C : Ad} {σ : L2.St} {H : Hp} {ta : TE} {E : XK} {h w : Nat} (ha : EvST K ta σ H [.int (h : Int), .int (w : Int)]) (gk : GOk h w) (hm : h * w ≤ 9) : EvP (tCall (sp_rings K C) [] E (tCons ta tNil)) σ H (fun H1 v H2 => NewLL H1 v H2 (ints2 (allRings h w))) := fun H1 e Q q =>
  ha H1 e _ fun g H2 e2 hg => ⟨_, rfl, .inr ⟨g, h, w, rfl, hg, gk, .inr ⟨hm, fun v H3 e3 z => q v H3 (e2.trans e3) (z.back e2)⟩⟩⟩
def t_rings (K : PySem.W.Frag) (C : Ad) (E : XK) : TS := (tSeq (tDrop (tCall (sp_check_few K C) [] E (tCons (tVar 0) tNil)))
      (tRet (tCall (sp_all_rings K) [] E0 (tCons (tVar 0) tNil))))
theorem pure_rings {K : PySem.W.Frag} {C : Ad} {vs : List V} {H : Hp} {Q : VK} {E : XK} {D : Ends} (hD : D.rt = Q) (h : sp_rings K C vs H Q E) : t_rings K C E D (start ["grid"] vs) H := by
  obtain ⟨v, rfl, h⟩ := h
  subst hD
  change t_rings K C E D [some v] H
  rcases h with ⟨hb, q⟩ | ⟨g, h, w, rfl, hs, gk, ⟨hb, q⟩ | ⟨hm, q⟩⟩
  · exact ⟨v, rfl, v, rfl, .inl ⟨hb, q⟩⟩
  · exact ⟨_, rfl, _, rfl, .inr ⟨g, h, w, rfl, hs, gk, .inl ⟨hb, q⟩⟩⟩
  · refine ⟨_, rfl, _, rfl, .inr ⟨g, h, w, rfl, hs, gk, .inr ⟨hm, fun H1 e1 => ?_⟩⟩⟩
    exact s_retP (ep_all_rings (K := K) (est_of (ev_var rfl) (ex_t e1 hs)) gk hm) fun v H2 e2 z => q v H2 (e1.trans e2) (z.back e1)
/-! ### check_clues -/
/-- what stands in a list of rows -/
inductive Row
  | other
  | row (ys : List V)
def RowIs (K : PySem.W.Frag) (H : Hp) (x : V) : Row → Prop
  | .other => ∃ n, Known K H x n ∧ n ≠ "list"
  | .row ys => ∃ r, x = .ref r ∧ SqL K H r ys ∧ ys.length ≤ 1000 ∧ ∀ y ∈ ys, ∃ n, Known K H y n
theorem RowIs.mono {K : PySem.W.Frag} {H H' : Hp} {x : V} {r : Row} (e : Ex H H') (h : RowIs K H x r) : RowIs K H' x r := by
  cases r with
  | other => exact h.imp fun n z => ⟨z.1.mono e, z.2⟩
  | row ys =>
    obtain ⟨r, rfl, h1, h2, h3⟩ := h
    exact ⟨r, rfl, ex_l e h1, h2, fun y hy => (h3 y hy).imp fun n z => z.mono e⟩
def Row.isRow : Row → Bool
  | .other => false
  | .row _ => true
def Row.len : Row → Nat
  | .other => 0
  | .row ys => ys.length
def Row.fine : Row → Bool
  | .other => false
  | .row ys => ys.all (inRange (-1) 4)
def cluesChk (rows : List Row) : Bool :=
  ((decide (1 ≤ rows.length) && decide (rows.length ≤ 6)) && rows.all Row.isRow) &&
  (((decide (1 ≤ (rows.headD .other).len) && decide ((rows.headD .other).len ≤ 6)) && (decide (rows.length * (rows.headD .other).len ≤ 9) && rows.all fun r => decide (r.len = (rows.headD .other).len))) && rows.all Row.fine)
def DoorC (K : PySem.W.Frag) (C : Ad) (v : V) (H : Hp) (E : XK) (ok : Addr → List Row → Prop) : Prop :=
  ((∃ n, Known K H v n ∧ n ≠ "list") ∧ RetE C.cBadClues H E) ∨ ∃ a xs rows, v = .ref a ∧ SqL K H a xs ∧ xs.length ≤ 1000 ∧ Paired (RowIs K H) xs rows ∧ ((cluesChk rows = false ∧ RetE C.cBadClues H E) ∨ (cluesChk rows = true ∧ ok a rows))
def sp_check_clues (K : PySem.W.Frag) (C : Ad) : Sp := fun vs H Q E => ∃ v, vs = [v] ∧ DoorC K C v H E fun _ _ => RetV .non H Q
def t_check_clues (K : PySem.W.Frag) (C : Ad) (E : XK) : TS := (tSeq (tIfS (tOr (tNot (tB (tCB (rIsi K) (tCons (tVar 0) (tCons (tC (.ty "list")) tNil))))) (tOr (tNot (tTest (tChain oLe oLe (tC (.int 1)) (tCB (rLenS K) (tCons (tVar 0) tNil)) (tC (.int 6))))) (tNot (tB (tCB (rAll K) (tCons (tLc (iList K (tVar 0)) (gName 2) tYes (tCB (rIsi K) (tCons (tVar 2) (tCons (tC (.ty "list")) tNil))) [2]) tNil)))))) (tRaise E (.ref C.cBadClues)) tNext)
      (tSeq (tAsg (tCB (rLenS K) (tCons (tOp (rIxL K) (tVar 0) (tC (.int 0))) tNil)) (gName 1))
      (tSeq (tIfS (tOr (tNot (tTest (tChain oLe oLe (tC (.int 1)) (tVar 1) (tC (.int 6))))) (tOr (tTest (tOp oGt (tOp oMul (tCB (rLenS K) (tCons (tVar 0) tNil)) (tVar 1)) (tC (.int 9)))) (tNot (tB (tCB (rAll K) (tCons (tLc (iList K (tVar 0)) (gName 2) tYes (tOp rEq (tCB (rLenS K) (tCons (tVar 2) tNil)) (tVar 1)) [2]) tNil)))))) (tRaise E (.ref C.cBadClues)) tNext)
      (tIfS (tNot (tB (tCB (rAll K) (tCons (tLc (iList K (tVar 0)) (gName 2) tYes (tCB (rAll K) (tCons (tLc (iList K (tVar 2)) (gName 3) tYes (tAndV (tCall (sp_is_whole K) [] E0 (tCons (tVar 3) tNil)) (tChain oLe oLe (tUn oNeg (tC (.int 1))) (tVar 3) (tC (.int 4)))) [3]) tNil)) [2]) tNil)))) (tRaise E (.ref C.cBadClues)) tNext))))
/-- all([t for row in clues]), t told by the row -/
theorem ev_allRows {K : PySem.W.Frag} {σ : L2.St} {H : Hp} {te tl : TE} {a : Addr} {xs : List V} {rows : List Row} {j : Nat} {vs : List Nat} (f : Row → Bool) (h : Ev tl σ H (.ref a)) (hs : SqL K H a xs) (hl : xs.length ≤ 1000) (hp : Paired (RowIs K H) xs rows) (hw : ∀ x, wipe ((wipe σ vs).set j (some x)) vs = wipe σ vs)
    (ht : ∀ (x : V) (r : Row) H1, Ex H H1 → r ∈ rows → RowIs K H1 x r → Ev te ((wipe σ vs).set j (some x)) H1 (.bl (f r))) : Ev (tCB (rAll K) (tCons (tLc (iList K tl) (gName j) tYes te vs) tNil)) σ H (.bl (rows.all f)) := by
  have w := el_lcL (K := K) (t := tYes) (te := te) (j := j) (vs := vs) (fun _ => true) (fun i => V.bl (f (rows.getD i .other))) h hs (by omega) hw (fun _ _ _ _ _ => et_yes) (fun i x H1 e1 hx _ => by
    obtain ⟨r, hr, hf⟩ := paired_get hp hx
    have e : rows.getD i .other = r := by rw [List.getD_eq_getElem?_getD, hr]; rfl
    show Ev te _ H1 (V.bl (f (rows.getD i .other)))
    rw [e]
    exact ht x r H1 e1 (List.mem_of_getElem? hr) (hf.mono e1))
  have e : given xs.length (fun _ => true) (fun i => V.bl (f (rows.getD i .other))) = (rows.map f).map V.bl := by
    unfold given
    rw [filter_yes, Paired.length hp, List.map_map]
    refine List.ext_getElem? fun i => ?_
    rw [List.getElem?_map, List.getElem?_map]
    by_cases hi : i < rows.length
    · rw [List.getElem?_range hi, List.getElem?_eq_getElem hi]
      simp [List.getD_eq_getElem?_getD, hi]
    · rw [List.getElem?_eq_none (by rw [List.length_range]; omega), List.getElem?_eq_none (by omega)]
      rfl
  rw [e] at w
  refine ev_is (ev_allS (K := K) (es_new (K := K) w)) ?_
  rw [List.all_map]
  rfl
theorem row_list {K : PySem.W.Frag} {H : Hp} {x : V} {r : Row} (h : RowIs K H x r) : ∃ n, Known K H x n ∧ (n == "list") = r.isRow := by
  cases r with
  | other =>
    obtain ⟨n, hk, hn⟩ := h
    exact ⟨n, hk, by simpa [Row.isRow] using hn⟩
  | row ys =>
    obtain ⟨r, rfl, h1, _⟩ := h
    exact ⟨"list", ⟨ty_list h1, by decide⟩, rfl⟩
theorem row_of {K : PySem.W.Frag} {H : Hp} {x : V} {r : Row} (h : RowIs K H x r) (hr : r.isRow = true) : ∃ q ys, r = .row ys ∧ x = .ref q ∧ SqL K H q ys ∧ ys.length ≤ 1000 ∧ ∀ y ∈ ys, ∃ n, Known K H y n := by
  cases r with
  | other => cases hr
  | row ys =>
    obtain ⟨q, rfl, h1, h2, h3⟩ := h
    exact ⟨q, ys, rfl, rfl, h1, h2, h3⟩
theorem ev_fine {K : PySem.W.Frag} {σ : L2.St} {H : Hp} {q : Addr} {ys : List V} {i j : Nat} {vs : List Nat} (hi : σ[i]? = some (some (.ref q))) (hs : SqL K H q ys) (hl : ys.length ≤ 1000) (hk : ∀ y ∈ ys, ∃ n, Known K H y n) (hw : ∀ x, wipe ((wipe σ vs).set j (some x)) vs = wipe σ vs) (hj : ∀ x : V, ((wipe σ vs).set j (some x))[j]? = some (some x)) :
    Ev (tCB (rAll K) (tCons (tLc (iList K (tVar i)) (gName j) tYes (tAndV (tCall (sp_is_whole K) [] E0 (tCons (tVar j) tNil)) (tChain oLe oLe (tUn oNeg (tC (.int 1))) (tVar j) (tC (.int 4)))) vs) tNil)) σ H (.bl (ys.all (inRange (-1) 4))) := by
  have e : (((ys.filter fun _ => true).map fun x => V.bl (inRange (-1) 4 x))) = (ys.map (inRange (-1) 4)).map V.bl := by
    rw [filter_yes, List.map_map]
    rfl
  have w := el_lc (K := K) (σ := σ) (H := H) (xs := ys) (tl := tVar i) (t := tYes) (te := tAndV (tCall (sp_is_whole K) [] E0 (tCons (tVar j) tNil)) (tChain oLe oLe (tUn oNeg (tC (.int 1))) (tVar j) (tC (.int 4)))) (j := j) (vs := vs) (fun _ => true) (fun x => V.bl (inRange (-1) 4 x)) (es_of (ev_var hi) hs) (by omega) hw (fun x H1 e1 hx => et_yes) (fun x H1 e1 hx _ => by
    obtain ⟨n, hn⟩ := hk x hx
    have r : inRange (-1) 4 x = (isInt x && inRange (-1) 4 x) := by cases x <;> rfl
    rw [r]
    refine ev_andV (ev_is_whole (ea_cons (ev_var (hj _)) ea_nil) (hn.mono e1)) (fun hi => ?_)
    obtain ⟨m, rfl⟩ := isInt_of hi
    exact ev_chain (ev_un ev_c ru_neg) (ev_var (hj _)) rv_I0 (fun _ => ev_c) (fun _ => rv_I0))
  rw [e] at w
  have z := ev_allS (K := K) (es_new (K := K) w)
  rw [List.all_map] at z
  exact z
theorem pure_check_clues {K : PySem.W.Frag} {C : Ad} {vs : List V} {H : Hp} {Q : VK} {E : XK} {D : Ends} (hD : D.nx = fun _ H' => Q .non H') (h : sp_check_clues K C vs H Q E) : t_check_clues K C E D (start ["clues", "wide", "row", "clue"] vs) H := by
  obtain ⟨v, rfl, h⟩ := h
  change t_check_clues K C E D [some v, none, none, none] H
  rcases h with ⟨⟨n, hk, hn⟩, q⟩ | ⟨a, xs, rows, rfl, hs, hl, hp, h⟩
  · have e : (n == "list") = false := by simpa using hn
    refine q_when (b := true) (et_is (et_or (b := true) (et_not (et_B (ev_isiList (ev_var rfl) hk))) (fun z => ?_)) (by rw [e]; rfl)) (fun _ H1 e1 => q H1 e1) (fun z => nomatch z)
    rw [e] at z
    cases z
  · have pl := Paired.length hp
    have t1 := et_or (et_not (et_B (ev_isiList (K := K) (σ := [some (.ref a), none, none, none]) (H := H) (ta := tVar 0) (ev_var rfl) ⟨ty_list hs, by decide⟩))) (fun _ => et_or (et_not (et_test (ev_chain (r := oLe) (r' := oLe) (x := .int 1) (z := .int 6) ev_c (ev_lenS (K := K) (ta := tVar 0) (es_of (ev_var rfl) hs)) rv_I0 (fun _ => ev_c) (fun _ => rv_I0)))) (fun _ => et_not (et_B (ev_allRows (K := K) (j := 2) (vs := [2]) (te := tCB (rIsi K) (tCons (tVar 2) (tCons (tC (.ty "list")) tNil))) Row.isRow (ev_var (i := 0) rfl) hs hl hp (fun _ => rfl) (fun x r H1 e1 hr hx => by
      obtain ⟨n, hk, hn⟩ := row_list hx
      exact ev_is (ev_isiList (ev_var rfl) hk) (by rw [hn]))))))
    have hbad : cluesChk rows = false → RetE C.cBadClues H E := fun z => by
      rcases h with ⟨_, q⟩ | ⟨hc, _⟩
      · exact q
      · rw [hc] at z; cases z
    refine q_when t1 (fun hb H1 e1 => hbad ?_ H1 e1) (fun hb H1 e1 => ?_)
    · have hb' : ((decide (1 ≤ rows.length) && decide (rows.length ≤ 6)) && rows.all Row.isRow) = false := by
        rw [pl] at hb
        simp only [beq_self_eq_true, Bool.not_true, Bool.false_or, Bool.or_eq_true, Bool.not_eq_true'] at hb
        rcases hb with z | z
        · have : (decide (1 ≤ rows.length) && decide (rows.length ≤ 6)) = false := by
            rw [Bool.and_eq_false_iff, decide_eq_false_iff_not, decide_eq_false_iff_not] at z ⊢
            omega
          rw [this, Bool.false_and]
        · rw [z, Bool.and_false]
      unfold cluesChk
      rw [hb', Bool.false_and]
    · have hb' : ((decide (1 ≤ rows.length) && decide (rows.length ≤ 6)) && rows.all Row.isRow) = true := by
        rw [pl] at hb
        simp only [beq_self_eq_true, Bool.not_true, Bool.false_or, Bool.or_eq_false_iff, Bool.not_eq_false'] at hb
        obtain ⟨z, z2⟩ := hb
        rw [z2, Bool.and_true]
        rw [Bool.and_eq_true, decide_eq_true_eq, decide_eq_true_eq] at z ⊢
        omega
      have cc : cluesChk rows = (((decide (1 ≤ (rows.headD .other).len) && decide ((rows.headD .other).len ≤ 6)) && (decide (rows.length * (rows.headD .other).len ≤ 9) && rows.all fun r => decide (r.len = (rows.headD .other).len))) && rows.all Row.fine) := by
        unfold cluesChk
        rw [hb', Bool.true_and]
      have hrows : ∀ r ∈ rows, r.isRow = true := List.all_eq_true.mp (Bool.and_eq_true _ _ ▸ hb').2
      have hlen : 1 ≤ rows.length ∧ rows.length ≤ 6 := by
        have := (Bool.and_eq_true _ _ ▸ hb').1
        rw [Bool.and_eq_true, decide_eq_true_eq, decide_eq_true_eq] at this
        exact this
      have hs1 := ex_l e1 hs
      have hp1 : Paired (RowIs K H1) xs rows := Paired.mapP hp fun x r z => z.mono e1
      have w0 : Ev (tCB (rLenS K) (tCons (tOp (rIxL K) (tVar 0) (tC (.int 0))) tNil)) [some (.ref a), none, none, none] H1 (.int ((rows.headD .other).len : Int)) := by
        cases hp1 with
        | nil => simp at hlen
        | cons h3 h4 =>
          obtain ⟨q, ys, rfl, rfl, h5, _⟩ := row_of h3 (hrows _ List.mem_cons_self)
          exact ev_lenS (K := K) (es_of (ev_ixS (es_of (ev_var rfl) hs1) ev_c (atI_nat (j := 0) rfl)) h5)
      refine q_asg (i := 1) w0 fun H2 e2 => ?_
      have hs2 := ex_l e2 hs1
      have hp2 : Paired (RowIs K H2) xs rows := Paired.mapP hp1 fun x r z => z.mono e2
      have wl : (rows.headD .other).len ≤ 1000 := by
        cases hp1 with
        | nil => simp at hlen
        | cons h3 h4 =>
          obtain ⟨q, ys, rfl, rfl, h5, h6, _⟩ := row_of h3 (hrows _ List.mem_cons_self)
          exact h6
      generalize (rows.headD .other).len = wd at *
      have t2 := et_or (et_not (et_test (ev_chain (r := oLe) (r' := oLe) (σ := [some (.ref a), some (.int (wd : Int)), none, none]) (H := H2) (x := .int 1) (z := .int 6) ev_c (ev_var (i := 1) rfl) rv_I0 (fun _ => ev_c) (fun _ => rv_I0)))) (fun _ => et_or (et_test (ev_op (r := oGt) (y := .int 9) (ev_op (r := oMul) (y := .int (wd : Int)) (ev_lenS (K := K) (ta := tVar 0) (es_of (ev_var rfl) hs2)) (ev_var (i := 1) rfl) (rv_I (.inl ⟨by omega, by omega⟩))) ev_c rv_I0)) (fun _ => et_not (et_B (ev_allRows (K := K) (j := 2) (vs := [2]) (te := tOp rEq (tCB (rLenS K) (tCons (tVar 2) tNil)) (tVar 1)) (fun r => decide (r.len = wd)) (ev_var (i := 0) rfl) hs2 hl hp2 (fun _ => rfl) (fun x r H3 e3 hr hx => by
        obtain ⟨q, ys, rfl, rfl, h5, _⟩ := row_of hx (hrows r hr)
        refine ev_is (ev_op (x := .int (ys.length : Int)) (y := .int (wd : Int)) (ev_lenS (K := K) (es_of (ev_var rfl) h5)) (ev_var rfl) (rv_eq rfl)) ?_
        show V.bl (decide (V.int (ys.length : Int) = V.int (wd : Int))) = V.bl (decide (ys.length = wd))
        congr 1
        rw [Bool.eq_iff_iff, decide_eq_true_eq, decide_eq_true_eq, V.int.injEq]
        omega)))))
      have cast : ((xs.length : Int) * (wd : Int)) = ((rows.length * wd : Nat) : Int) := by rw [pl, Int.natCast_mul]
      refine q_when t2 (fun hb2 H3 e3 => hbad ?_ H3 ((e1.trans e2).trans e3)) (fun hb2 H3 e3 => ?_)
      · rw [cc]
        rw [cast] at hb2
        have : ((decide (1 ≤ wd) && decide (wd ≤ 6)) && (decide (rows.length * wd ≤ 9) && rows.all fun r => decide (r.len = wd))) = false := by
          simp only [Bool.or_eq_true, Bool.not_eq_true', decide_eq_true_eq] at hb2
          rcases hb2 with z | z | z
          · have : (decide (1 ≤ wd) && decide (wd ≤ 6)) = false := by
              rw [Bool.and_eq_false_iff, decide_eq_false_iff_not, decide_eq_false_iff_not] at z ⊢
              omega
            rw [this, Bool.false_and]
          · have : decide (rows.length * wd ≤ 9) = false := decide_eq_false (by omega)
            rw [this, Bool.false_and, Bool.and_false]
          · rw [z, Bool.and_false, Bool.and_false]
        rw [this, Bool.false_and]
      · have c2 : ((decide (1 ≤ wd) && decide (wd ≤ 6)) && (decide (rows.length * wd ≤ 9) && rows.all fun r => decide (r.len = wd))) = true := by
          rw [cast] at hb2
          simp only [Bool.or_eq_false_iff, Bool.not_eq_false', decide_eq_false_iff_not] at hb2
          obtain ⟨z1, z2, z3⟩ := hb2
          rw [Bool.and_eq_true, decide_eq_true_eq, decide_eq_true_eq] at z1
          rw [z3, Bool.and_true, Bool.and_eq_true, Bool.and_eq_true, decide_eq_true_eq, decide_eq_true_eq, decide_eq_true_eq]
          omega
        rw [c2, Bool.true_and] at cc
        have hs3 := ex_l e3 hs2
        have hp3 : Paired (RowIs K H3) xs rows := Paired.mapP hp2 fun x r z => z.mono e3
        have t3 := et_not (et_B (ev_allRows (K := K) (σ := [some (.ref a), some (.int (wd : Int)), none, none]) (j := 2) (vs := [2]) (te := tCB (rAll K) (tCons (tLc (iList K (tVar 2)) (gName 3) tYes (tAndV (tCall (sp_is_whole K) [] E0 (tCons (tVar 3) tNil)) (tChain oLe oLe (tUn oNeg (tC (.int 1))) (tVar 3) (tC (.int 4)))) [3]) tNil)) Row.fine (ev_var (i := 0) rfl) hs3 hl hp3 (fun _ => rfl) (fun x r H4 e4 hr hx => by
          obtain ⟨q, ys, rfl, rfl, h5, h6, h7⟩ := row_of hx (hrows r hr)
          exact ev_fine rfl h5 h6 h7 (fun _ => rfl) (fun _ => rfl))))
        refine s_when t3 (fun hb3 H4 e4 => hbad ?_ H4 (((e1.trans e2).trans e3).trans e4)) (fun hb3 H4 e4 => ?_)
        · rw [cc]
          simpa using hb3
        · rw [hD]
          rcases h with ⟨hc, _⟩ | ⟨_, q⟩
          · rw [cc] at hc
            rw [hc] at hb3
            cases hb3
          · exact q H4 (((e1.trans e2).trans e3).trans e4)

/-! ### fitting, told -/
def rowsOf (nss : List (List Int)) : List Row := nss.map fun ns => .row (ns.map V.int)
def cluesB (nss : List (List Int)) : Bool :=
  ((decide (1 ≤ nss.length) && decide (nss.length ≤ 6)) && ((decide (1 ≤ (nss.headD []).length) && decide ((nss.headD []).length ≤ 6)) && decide (nss.length * (nss.headD []).length ≤ 9))) &&
  ((nss.all fun ns => decide (ns.length = (nss.headD []).length)) && nss.all fun ns => ns.all fun n => decide (-1 ≤ n) && decide (n ≤ 4))
theorem rowsOf_head (nss : List (List Int)) : ((rowsOf nss).headD .other).len = (nss.headD []).length := by
  cases nss with
  | nil => rfl
  | cons a r => exact List.length_map ..
theorem rowsOf_chk (nss : List (List Int)) (h : cluesB nss = true) : cluesChk (rowsOf nss) = true := by
  unfold cluesB at h
  simp only [Bool.and_eq_true, List.all_eq_true, decide_eq_true_eq] at h
  obtain ⟨⟨h1, h2, h3⟩, h4, h5⟩ := h
  unfold cluesChk
  rw [rowsOf_head]
  have ln : (rowsOf nss).length = nss.length := List.length_map ..
  simp only [Bool.and_eq_true, List.all_eq_true, decide_eq_true_eq, ln]
  have mem : ∀ r ∈ rowsOf nss, ∃ ns ∈ nss, r = .row (ns.map V.int) := fun r hr => by
    obtain ⟨ns, h, e⟩ := List.mem_map.mp hr
    exact ⟨ns, h, e.symm⟩
  refine ⟨⟨h1, fun r hr => ?_⟩, ⟨h2, h3, fun r hr => ?_⟩, fun r hr => ?_⟩
  · obtain ⟨ns, _, rfl⟩ := mem r hr
    rfl
  · obtain ⟨ns, hn, rfl⟩ := mem r hr
    rw [← h4 ns hn]
    exact List.length_map ..
  · obtain ⟨ns, hn, rfl⟩ := mem r hr
    show (ns.map V.int).all (inRange (-1) 4) = true
    rw [List.all_map, List.all_eq_true]
    intro x hx
    have := h5 ns hn x hx
    simp only [Function.comp, inRange, Bool.and_eq_true, decide_eq_true_eq]
    exact this
theorem cluesB_R {nss : List (List Int)} (h : cluesB nss = true) : CluesR nss := by
  unfold cluesB at h
  simp only [Bool.and_eq_true, List.all_eq_true, decide_eq_true_eq] at h
  obtain ⟨⟨h1, h2, h3⟩, h4, h5⟩ := h
  exact ⟨⟨h1.1, h1.2, h2.1, h2.2⟩, h3, fun ns hn => by rw [h4 ns hn]; omega⟩
theorem rowIs_of {K : PySem.W.Frag} {H : Hp} : ∀ {rs : List Addr} {nss : List (List Int)}, (∀ ns ∈ nss, ns.length ≤ 1000) → Paired (fun (r : Addr) (ns : List Int) => SqL K H r (ns.map V.int)) rs nss → Paired (RowIs K H) (rs.map V.ref) (rowsOf nss)
  | [], [], _, .nil => .nil
  | r :: rs, ns :: nss, hl, .cons h hs => .cons ⟨r, rfl, h, by rw [List.length_map]; exact hl ns List.mem_cons_self, fun y hy => by
      obtain ⟨m, _, rfl⟩ := List.mem_map.mp hy
      exact ⟨_, known_int m⟩⟩ (rowIs_of (fun m hm => hl m (List.mem_cons_of_mem _ hm)) hs)
theorem doorC_good {K : PySem.W.Frag} {C : Ad} {a : Addr} {H : Hp} {E : XK} {nss : List (List Int)} {ok : Addr → List Row → Prop} (hr : RowsAt K H a nss) (hb : cluesB nss = true) (h : ok a (rowsOf nss)) : DoorC K C (.ref a) H E ok := by
  have ck := cluesB_R hb
  obtain ⟨rs, h1, h2⟩ := hr
  have := ck.g.2.1
  exact .inr ⟨a, _, rowsOf nss, rfl, h1, by rw [List.length_map, Paired.length h2]; omega, rowIs_of ck.len h2, .inr ⟨rowsOf_chk nss hb, h⟩⟩
def OkC (K : PySem.W.Frag) (H : Hp) (R : List (List Int) → Prop) : Addr → List Row → Prop := fun a _ => ∃ nss, RowsAt K H a nss ∧ CluesR nss ∧ R nss
theorem DoorC.mono {K : PySem.W.Frag} {C : Ad} {v : V} {H : Hp} {E : XK} {ok ok' : Addr → List Row → Prop} (h : DoorC K C v H E ok) (hk : ∀ a rows, v = .ref a → ok a rows → ok' a rows) : DoorC K C v H E ok' := by
  rcases h with h | ⟨a, xs, rows, rfl, h1, h2, h3, h⟩
  · exact .inl h
  · exact .inr ⟨a, xs, rows, rfl, h1, h2, h3, h.imp id fun z => ⟨z.1, hk a rows rfl z.2⟩⟩
def sp_fitting (K : PySem.W.Frag) (C : Ad) : Sp := fun vs H Q E => ∃ v, vs = [v] ∧ DoorC K C v H E (OkC K H fun nss => RetP (fun H1 v H2 => NewLL H1 v H2 (ints2 (fittingOf nss))) H Q)
theorem ep_fitting {K : PySem.W.Frag} {C : Ad} {σ : L2.St} {H : Hp} {ta : TA} {E : XK} {a : Addr} {nss : List (List Int)} (ha : EvA ta σ H [.ref a]) (hr : RowsAt K H a nss) (hb : cluesB nss = true) : EvP (tCall (sp_fitting K C) [] E ta) σ H (fun H1 v H2 => NewLL H1 v H2 (ints2 (fittingOf nss))) := fun H1 e Q q =>
  ha H1 e _ fun H2 e2 => ⟨_, rfl, doorC_good (hr.mono (e.trans e2)) hb ⟨nss, hr.mono (e.trans e2), cluesB_R hb, fun v H3 e3 z => q v H3 (e2.trans e3) (z.back e2)⟩⟩
def t_fitting (K : PySem.W.Frag) (C : Ad) (E : XK) : TS := (tSeq (tDrop (tCall (sp_check_clues K C) [] E (tCons (tVar 0) tNil)))
      (tRet (tCall (sp_fitting_of K) [] E0 (tCons (tVar 0) tNil))))
theorem pure_fitting {K : PySem.W.Frag} {C : Ad} {vs : List V} {H : Hp} {Q : VK} {E : XK} {D : Ends} (hD : D.rt = Q) (h : sp_fitting K C vs H Q E) : t_fitting K C E D (start ["clues"] vs) H := by
  obtain ⟨v, rfl, h⟩ := h
  subst hD
  change t_fitting K C E D [some v] H
  refine ⟨v, rfl, v, rfl, h.mono fun a rows hv hk H1 e1 => ?_⟩
  obtain ⟨nss, hr, ck, q⟩ := hk
  subst hv
  exact s_retP (ep_fitting_of (K := K) (ea_cons (ev_var rfl) ea_nil) (hr.mono e1) ck) fun v H2 e2 z => q v H2 (e1.trans e2) (z.back e1)
inductive Tld
  | never
  | one (a : List Int)
  | two (a b : List Int)
deriving DecidableEq
def toldM (nss : List (List Int)) : Tld :=
  match fittingOf nss with
  | [] => .never
  | [a] => .one a
  | a :: b :: _ => .two a b
def NewTold (C : Ad) : Tld → Hp → V → Hp → Prop
  | .never => NewI C.cNever []
  | .one a => NewOne C (a.map V.int)
  | .two a b => NewTwo C (a.map V.int) (b.map V.int)
theorem NewTold.back {C : Ad} {a : Tld} {H0 H1 H2 : Hp} {v : V} (e : Ex H0 H1) (h : NewTold C a H1 v H2) : NewTold C a H0 v H2 := by
  cases a with
  | never => exact NewI.back e h
  | one a =>
    obtain ⟨p, dx, l, rfl, hp, hl, h1, h2⟩ := h
    exact ⟨p, dx, l, rfl, fresh_back e hp, fresh_back e hl, h1, h2⟩
  | two a b =>
    obtain ⟨p, dx, l, m, rfl, hp, hl, hm, lm, h1, h2, h3⟩ := h
    exact ⟨p, dx, l, m, rfl, fresh_back e hp, fresh_back e hl, fresh_back e hm, lm, h1, h2, h3⟩
def sp_told (K : PySem.W.Frag) (C : Ad) : Sp := fun vs H Q E => ∃ v, vs = [v] ∧ DoorC K C v H E (OkC K H fun nss => RetP (NewTold C (toldM nss)) H Q)
theorem ep_told {K : PySem.W.Frag} {C : Ad} {σ : L2.St} {H : Hp} {ta : TA} {E : XK} {a : Addr} {nss : List (List Int)} (ha : EvA ta σ H [.ref a]) (hr : RowsAt K H a nss) (hb : cluesB nss = true) : EvP (tCall (sp_told K C) [] E ta) σ H (NewTold C (toldM nss)) := fun H1 e Q q =>
  ha H1 e _ fun H2 e2 => ⟨_, rfl, doorC_good (hr.mono (e.trans e2)) hb ⟨nss, hr.mono (e.trans e2), cluesB_R hb, fun v H3 e3 z => q v H3 (e2.trans e3) (z.back e2)⟩⟩
def t_told (K : PySem.W.Frag) (C : Ad) (E : XK) : TS := (tSeq (tDrop (tCall (sp_check_clues K C) [] E (tCons (tVar 0) tNil)))
      (tSeq (tAsg (tCall (sp_fitting_of K) [] E0 (tCons (tVar 0) tNil)) (gName 1))
      (tSeq (tIfS (tTest (tOp (rEqD K) (tVar 1) (tLst tNil))) (tRet (tBare C.cNever)) tNext)
      (tRet (tIf (tTest (tOp rEq (tCB (rLenS K) (tCons (tVar 1) tNil)) (tC (.int 1)))) (tMake C.cOne (sp_One_init K C) [] E0 (tCons (tOp (rIxL K) (tVar 1) (tC (.int 0))) tNil)) (tMake C.cTwo (sp_Two_init K C) [] E0 (tCons (tOp (rIxL K) (tVar 1) (tC (.int 0))) (tCons (tOp (rIxL K) (tVar 1) (tC (.int 1))) tNil))))))))
theorem pure_told {K : PySem.W.Frag} {C : Ad} {vs : List V} {H : Hp} {Q : VK} {E : XK} {D : Ends} (hD : D.rt = Q) (h : sp_told K C vs H Q E) : t_told K C E D (start ["clues", "found"] vs) H := by
  obtain ⟨v, rfl, h⟩ := h
  subst hD
  change t_told K C E D [some v, none] H
  refine ⟨v, rfl, v, rfl, h.mono fun a rows hv hk H1 e1 => ?_⟩
  obtain ⟨nss, hr, ck, q⟩ := hk
  subst hv
  refine q_asgP (i := 1) (ep_fitting_of (K := K) (ea_cons (ev_var rfl) ea_nil) (hr.mono e1) ck) fun v H2 e2 hv => ?_
  have tm : toldM nss = match fittingOf nss with | [] => .never | [a] => .one a | a :: b :: _ => .two a b := rfl
  have dv : Dp K H2 v (dII (fittingOf nss)) := hv.dp
  obtain ⟨p, bs, rfl, hp, h2, hbs, hb⟩ := hv.bs
  generalize fittingOf nss = fs at *
  refine q_when (b := decide (fs = [])) (et_is (et_test (ev_eqD (d' := dII []) (ed_of (ev_var rfl) dv) (ed_lst ead_nil (by simp)) (shaped_rows _) (shaped_rows _))) (by rw [eqv_dII])) (fun hb' H3 e3 => ?_) (fun hb' H3 e3 => ?_)
  · have : fs = [] := of_decide_eq_true hb'
    subst this
    refine s_retP ep_bare fun v H4 e4 z => q v H4 (((e1.trans e2).trans e3).trans e4) ?_
    rw [tm]
    exact NewI.back ((e1.trans e2).trans e3) z
  · have hn : fs ≠ [] := of_decide_eq_false hb'
    have h3 := e3 _ _ h2
    have hb3 : ∀ b ∈ bs, H3 b.1 = some (.lst (b.2.map V.int)) := fun b m => e3 _ _ (hb b m).2
    refine s_retP (R := NewTold C (toldM nss)) (ep_if (b := decide (fs.length = 1)) (fun e z => z.back e) (et_is (et_test (ev_op (x := .int (fs.length : Int)) (ev_is (ev_lenS (K := K) (es_of (ev_var rfl) (sq_of h3))) ?_) (ev_c (v := .int 1)) (rv_eq rfl))) ?_) (fun hl => ?_) (fun hl => ?_)) fun v H4 e4 z => q v H4 (((e1.trans e2).trans e3).trans e4) (z.back ((e1.trans e2).trans e3))
    · rw [hbs, List.length_map, List.length_map]
    · rw [Bool.eq_iff_iff, decide_eq_true_eq, decide_eq_true_eq, V.int.injEq]
      omega
    · have hl := of_decide_eq_true hl
      cases bs with
      | nil => exact absurd hbs hn
      | cons b r =>
        cases r with
        | nil =>
          subst hbs
          rw [tm]
          exact ep_One (es_of (ev_ixS (es_of (ev_var rfl) (sq_of h3)) ev_c (atI_nat (j := 0) rfl)) (sq_of (hb3 b List.mem_cons_self)))
        | cons c r => rw [hbs] at hl; simp at hl
    · have hl := of_decide_eq_false hl
      cases bs with
      | nil => exact absurd hbs hn
      | cons b r =>
        cases r with
        | nil => rw [hbs] at hl; simp at hl
        | cons c r =>
          subst hbs
          rw [tm]
          exact ep_Two (K := K) (C := C) (ev_ixS (es_of (ev_var rfl) (sq_of h3)) ev_c (atI_nat (j := 0) rfl)) (ev_ixS (es_of (ev_var rfl) (sq_of h3)) ev_c (atI_nat (j := 1) rfl)) (hb3 b List.mem_cons_self) (hb3 c (List.mem_cons_of_mem _ List.mem_cons_self))

/-! ### lists of pairs -/
/-- refs to tuples of two ints -/
def Prs (K : PySem.W.Frag) (H : Hp) : List Addr → List (Int × Int) → Prop := Paired fun q pr => SqT K H q [.int pr.1, .int pr.2]
theorem Prs.mono {K : PySem.W.Frag} {H H' : Hp} {ps : List Addr} {prs : List (Int × Int)} (e : Ex H H') (h : Prs K H ps prs) : Prs K H' ps prs := Paired.mapP h fun _ _ z => ex_t e z
theorem paired_get {α β : Type} {F : α → β → Prop} : ∀ {l : List α} {m : List β} {i : Nat} {a : α}, Paired F l m → l[i]? = some a → ∃ b, m[i]? = some b ∧ F a b
  | _ :: _, _ :: _, 0, _, .cons h _, e => by
    have := Option.some.inj e
    subst this
    exact ⟨_, rfl, h⟩
  | _ :: _, _ :: _, i + 1, a, .cons _ hs, e => paired_get (i := i) (a := a) hs e
/-- arguments that are written pairs of ints -/
def EvAP (K : PySem.W.Frag) (ta : TA) (σ : L2.St) (H : Hp) (prs : List (Int × Int)) : Prop := ∀ H1, Ex H H1 → ∀ Q : List V → Hp → Prop, (∀ ps H2, Ex H1 H2 → Prs K H2 ps prs → Q (ps.map V.ref) H2) → ta σ H1 Q
section
variable {K : PySem.W.Frag} {σ : L2.St} {H H' : Hp} {ta tb te tl : TE} {tr : TA} {t : TT} {D : Ends} {tz : TS}
theorem eap_nil : EvAP K tNil σ H [] := fun H1 _ _ q => q [] H1 (Ex.refl H1) .nil
theorem eap_cons {x y : Int} {prs : List (Int × Int)} (h : EvST K ta σ H [.int x, .int y]) (hr : EvAP K tr σ H prs) : EvAP K (tCons ta tr) σ H ((x, y) :: prs) := fun H1 e _ q =>
  h H1 e _ fun p H2 e2 hp => hr H2 (e.trans e2) _ fun ps H3 e3 hs => q (p :: ps) H3 (e2.trans e3) (.cons (ex_t e3 hp) hs)
/-- xs = [(a, b), ..] -/
theorem q_asgPrs {i : Nat} {prs : List (Int × Int)} (h : EvAP K tr σ H prs) (hl : prs.length ≤ 1000) (k : ∀ p ps H1, H p = none → Ex H H1 → H1 p = some (.lst (ps.map V.ref)) → Prs K H1 ps prs → tz D (σ.set i (some (.ref p))) H1) : tSeq (tAsg (tLst tr) (gName i)) tz D σ H :=
  h H (Ex.refl H) _ fun ps H1 e hp => ⟨sz_of (by rw [List.length_map, Paired.length hp]; omega), fun p np => k p ps _ (fresh_back e np) (e.trans (Ex.new np)) upd_same (hp.mono (Ex.new np))⟩
/-- [e for a, b in ps if t], ps a list of pairs -/
theorem el_lcPrs {i j : Nat} {vs : List Nat} {a : Addr} {ps : List Addr} {prs : List (Int × Int)} (f : Int × Int → Bool) (g : Int × Int → V) (h : Ev tl σ H (.ref a)) (ha : SqL K H a (ps.map V.ref)) (hp : Prs K H ps prs) (hz : ps.length ≤ 40000)
    (hw : ∀ x y, wipe (((wipe σ vs).set i (some x)).set j (some y)) vs = wipe σ vs)
    (ht : ∀ (p : Int × Int) H1, Ex H H1 → p ∈ prs → EvT t (((wipe σ vs).set i (some (.int p.1))).set j (some (.int p.2))) H1 (f p)) (he : ∀ (p : Int × Int) H1, Ex H H1 → p ∈ prs → f p = true → Ev te (((wipe σ vs).set i (some (.int p.1))).set j (some (.int p.2))) H1 (g p)) :
    EvL (tLc (iList K tl) (gTup K 2 (gCons (gName i) (gCons (gName j) gNil))) t te vs) σ H ((prs.filter f).map g) := fun H0 e Q q => h H0 e _ fun H1 e1 => ⟨a, rfl, ⟨_, ex_l (e.trans e1) ha⟩, fun Dl hD => by
  have ln : (ps.map V.ref).length = prs.length := by rw [List.length_map]; exact Paired.length hp
  refine lc_list (xs := ps.map V.ref) (fun n => Grow H1 Dl (((prs.take n).filter f).map g)) ⟨hD, Ex.new hD, upd_same⟩ (fun n H' _ p => ex_l ((e.trans e1).trans p.2.1) ha) (fun n x H' hi p => ?_) (fun H' p => ?_)
  · rw [List.getElem?_map] at hi
    obtain ⟨r, hr, rfl⟩ := Option.map_eq_some_iff.mp hi
    obtain ⟨pr, hpr, hq⟩ := paired_get hp hr
    have hm : pr ∈ prs := List.mem_of_getElem? hpr
    refine ⟨r, _, rfl, ex_t ((e.trans e1).trans p.2.1) hq, rfl, _, _, rfl, _, _, rfl, rfl, hw _ _, ?_⟩
    have hlen : (((prs.take n).filter f).map g).length < 100000 := by
      rw [List.length_map]
      have h1 := List.length_filter_le f (prs.take n)
      have h2 : (prs.take n).length ≤ prs.length := by rw [List.length_take]; omega
      rw [List.length_map] at ln
      omega
    have w := grow_turn p hlen (ht pr H1 (e.trans e1) hm) (he pr H1 (e.trans e1) hm)
    have e2 : (((prs.take (n + 1)).filter f).map g) = ((prs.take n).filter f).map g ++ if f pr = true then [g pr] else [] := by
      rw [take_snoc hpr, List.filter_append, List.map_append]
      congr 1
      cases hf : f pr <;> simp [hf]
    rw [e2]
    exact w
  · rw [ln, List.take_length] at p
    exact q Dl H' (fresh_back e1 p.1) (e1.trans p.2.1) p.2.2⟩
end

/-! ### side_ahead -/
def dP (a b : Int) : PyData := .tuple [.int a, .int b]
theorem dp_pair {K : PySem.W.Frag} {H : Hp} {v : V} {a b : Int} (h : Dp K H v (dP a b)) : ∃ p, v = .ref p ∧ SqT K H p [.int a, .int b] := by
  cases h with
  | tup hs ha =>
    cases ha with
    | cons h1 h2 =>
      cases h2 with
      | cons h3 h4 =>
        cases h4
        cases h1
        cases h3
        exact ⟨_, rfl, hs⟩
theorem pair_dp {K : PySem.W.Frag} {H : Hp} {p : Addr} {a b : Int} (h : SqT K H p [.int a, .int b]) : Dp K H (.ref p) (dP a b) := .tup h (.cons (.int a) (.cons (.int b) .nil))
section
variable {K : PySem.W.Frag} {σ : L2.St} {H : Hp} {te ta tb : TE} {D : Ends} {tz : TS} {d : PyData}
theorem q_asgD {i : Nat} (h : EvD K te σ H d) (k : ∀ v H1, Ex H H1 → Dp K H1 v d → tz D (σ.set i (some v)) H1) : tSeq (tAsg te (gName i)) tz D σ H := h H (Ex.refl H) _ fun v H1 e z => k v H1 e z
theorem ed_pair {a b : Int} (ha : Ev ta σ H (.int a)) (hb : Ev tb σ H (.int b)) : EvD K (tTup (tCons ta (tCons tb tNil))) σ H (dP a b) := ed_tup (ead_cons (ed_int ha) (ead_cons (ed_int hb) ead_nil)) (by simp)
end
theorem dp_two {K : PySem.W.Frag} {H : Hp} {v : V} {d e : PyData} (h : Dp K H v (.tuple [d, e])) : ∃ p x y, v = .ref p ∧ SqT K H p [x, y] ∧ Dp K H x d ∧ Dp K H y e := by
  cases h with
  | tup hs ha =>
    cases ha with
    | cons h1 h2 =>
      cases h2 with
      | cons h3 h4 =>
        cases h4
        exact ⟨_, _, _, rfl, hs, h1, h3⟩
theorem dp_four {K : PySem.W.Frag} {H : Hp} {v : V} {d0 d1 d2 d3 : PyData} (h : Dp K H v (.tuple [d0, d1, d2, d3])) : ∃ p x0 x1 x2 x3, v = .ref p ∧ SqT K H p [x0, x1, x2, x3] ∧ Dp K H x0 d0 ∧ Dp K H x1 d1 ∧ Dp K H x2 d2 ∧ Dp K H x3 d3 := by
  cases h with
  | tup hs ha =>
    cases ha with
    | cons h0 h => cases h with
      | cons h1 h => cases h with
        | cons h2 h => cases h with
          | cons h3 h =>
            cases h
            exact ⟨_, _, _, _, _, rfl, hs, h0, h1, h2, h3⟩
/-- of four: the one at t -/
theorem pick4 {K : PySem.W.Frag} {H : Hp} {x0 x1 x2 x3 : V} (f : Nat → PyData) (h0 : Dp K H x0 (f 0)) (h1 : Dp K H x1 (f 1)) (h2 : Dp K H x2 (f 2)) (h3 : Dp K H x3 (f 3)) {t : Nat} (ht : t < 4) : ∃ x, atI [x0, x1, x2, x3] (t : Int) = some x ∧ Dp K H x (f t) := by
  have : t = 0 ∨ t = 1 ∨ t = 2 ∨ t = 3 := by omega
  rcases this with rfl | rfl | rfl | rfl
  · exact ⟨_, atI_nat (j := 0) rfl, h0⟩
  · exact ⟨_, atI_nat (j := 1) rfl, h1⟩
  · exact ⟨_, atI_nat (j := 2) rfl, h2⟩
  · exact ⟨_, atI_nat (j := 3) rfl, h3⟩
def sp_side_ahead (K : PySem.W.Frag) : Sp := fun vs H Q _ => ∃ g c q h w cs r a t, vs = [.ref g, .ref c, .ref q, .int ((t : Nat) : Int)] ∧ SqT K H g [.int ((h : Nat) : Int), .int ((w : Nat) : Int)] ∧ GOk h w ∧ SqL K H c ((cs : List Int).map V.int) ∧ SqT K H q [.int r, .int a] ∧ t < 4 ∧ RetV (.bl (sideAhead h w cs r a t)) H Q
theorem ev_side_ahead {K : PySem.W.Frag} {σ : L2.St} {H : Hp} {ta : TA} {E : XK} {g c q : Addr} {h w t : Nat} {cs : List Int} {r a : Int} (ha : EvA ta σ H [.ref g, .ref c, .ref q, .int (t : Int)]) (hs : SqT K H g [.int (h : Int), .int (w : Int)]) (gk : GOk h w) (hc : SqL K H c (cs.map V.int)) (hq : SqT K H q [.int r, .int a]) (ht : t < 4) :
    Ev (tCall (sp_side_ahead K) [] E ta) σ H (.bl (sideAhead h w cs r a t)) := fun H1 e Q k =>
  ha H1 e _ fun H2 e2 => ⟨g, c, q, h, w, cs, r, a, t, rfl, ex_t (e.trans e2) hs, gk, ex_l (e.trans e2) hc, ex_t (e.trans e2) hq, ht, fun H3 e3 => k H3 (e2.trans e3)⟩
def t_side_ahead (K : PySem.W.Frag) : TS := (tSeq (tAsg (tVar 0) (gTup K 2 (gCons (gName 4) (gCons (gName 5) gNil))))
      (tSeq (tAsg (tVar 2) (gTup K 2 (gCons (gName 6) (gCons (gName 7) gNil))))
      (tSeq (tAsg (tTup (tCons (tTup (tCons (tTup (tCons (tOp oSub (tVar 6) (tC (.int 1))) (tCons (tVar 7) tNil))) (tCons (tTup (tCons (tVar 6) (tCons (tVar 7) tNil))) tNil))) (tCons (tTup (tCons (tTup (tCons (tVar 6) (tCons (tVar 7) tNil))) (tCons (tTup (tCons (tVar 6) (tCons (tOp oSub (tVar 7) (tC (.int 1))) tNil))) tNil))) (tCons (tTup (tCons (tTup (tCons (tVar 6) (tCons (tOp oSub (tVar 7) (tC (.int 1))) tNil))) (tCons (tTup (tCons (tOp oSub (tVar 6) (tC (.int 1))) (tCons (tOp oSub (tVar 7) (tC (.int 1))) tNil))) tNil))) (tCons (tTup (tCons (tTup (tCons (tOp oSub (tVar 6) (tC (.int 1))) (tCons (tOp oSub (tVar 7) (tC (.int 1))) tNil))) (tCons (tTup (tCons (tOp oSub (tVar 6) (tC (.int 1))) (tCons (tVar 7) tNil))) tNil))) tNil))))) (gName 8))
      (tSeq (tAsg (tLst tNil) (gName 9))
      (tSeq (tFor (iTup K (tOp (rIxT K) (tVar 8) (tVar 3))) (gTup K 2 (gCons (gName 10) (gCons (gName 11) gNil))) (tDrop (tBM K "list" rAppend (tVar 9) (tCons (tAndV (tChain oLe oLt (tC (.int 0)) (tVar 10) (tVar 4)) (tAndV (tChain oLe oLt (tC (.int 0)) (tVar 11) (tVar 5)) (tOp (rIn K false) (tOp oAdd (tOp oMul (tVar 10) (tVar 5)) (tVar 11)) (tVar 1)))) tNil))))
      (tRet (tOp rNe (tOp (rIxL K) (tVar 9) (tC (.int 0))) (tOp (rIxL K) (tVar 9) (tC (.int 1))))))))))
def dQ (r a : Int) (t : Nat) : PyData := .tuple [dP (pairOf r a t).1.1 (pairOf r a t).1.2, dP (pairOf r a t).2.1 (pairOf r a t).2.2]
theorem pure_side_ahead {K : PySem.W.Frag} {vs : List V} {H : Hp} {Q : VK} {E : XK} {D : Ends} (hD : D.rt = Q) (h : sp_side_ahead K vs H Q E) : t_side_ahead K D (start ["grid", "cells", "point", "turn", "high", "wide", "row", "at", "pairs", "found", "here", "there"] vs) H := by
  obtain ⟨g, c, q, h, w, cs, r, a, t, rfl, hs, gk, hc, hq, ht, k⟩ := h
  subst hD
  change t_side_ahead K D [some (.ref g), some (.ref c), some (.ref q), some (.int (t : Int)), none, none, none, none, none, none, none, none] H
  have gb := gk
  obtain ⟨g1, g2, g3, g4⟩ := gb
  refine q_unp (i := 4) (j := 5) (est_of (ev_var rfl) hs) fun H1 e1 => ?_
  refine q_unp (i := 6) (j := 7) (est_of (ev_var rfl) (ex_t e1 hq)) fun H2 e2 => ?_
  refine q_asgD (K := K) (i := 8) (d := .tuple [dQ r a 0, dQ r a 1, dQ r a 2, dQ r a 3]) (ed_tup (ead_cons (d := dQ r a 0) (ed_tup (ead_cons (d := dP (r - 1) a) (ed_pair (by walk_at "ev") (by walk_at "ev")) (ead_cons (d := dP r a) (ed_pair (by walk_at "ev") (by walk_at "ev")) ead_nil)) (by simp))
    (ead_cons (d := dQ r a 1) (ed_tup (ead_cons (d := dP r a) (ed_pair (by walk_at "ev") (by walk_at "ev")) (ead_cons (d := dP r (a - 1)) (ed_pair (by walk_at "ev") (by walk_at "ev")) ead_nil)) (by simp))
    (ead_cons (d := dQ r a 2) (ed_tup (ead_cons (d := dP r (a - 1)) (ed_pair (by walk_at "ev") (by walk_at "ev")) (ead_cons (d := dP (r - 1) (a - 1)) (ed_pair (by walk_at "ev") (by walk_at "ev")) ead_nil)) (by simp))
    (ead_cons (d := dQ r a 3) (ed_tup (ead_cons (d := dP (r - 1) (a - 1)) (ed_pair (by walk_at "ev") (by walk_at "ev")) (ead_cons (d := dP (r - 1) a) (ed_pair (by walk_at "ev") (by walk_at "ev")) ead_nil)) (by simp)) ead_nil)))) (by simp)) fun v H3 e3 hv => ?_
  obtain ⟨p, x0, x1, x2, x3, rfl, sp, d0, d1, d2, d3⟩ := dp_four hv
  obtain ⟨x, hx, dx⟩ := pick4 (dQ r a) d0 d1 d2 d3 ht
  obtain ⟨y, u, v, rfl, sy, du, dv⟩ := dp_two dx
  obtain ⟨pu, rfl, su⟩ := dp_pair du
  obtain ⟨pv, rfl, sv⟩ := dp_pair dv
  refine q_asgL (i := 9) (xs := []) (el_lst ea_nil (by simp)) fun f H4 hf e4 h4 => ?_
  have hs4 := ex_t ((e1.trans e2).trans (e3.trans e4)) hs
  have hc4 := ex_l ((e1.trans e2).trans (e3.trans e4)) hc
  have tgt : Ev (tOp (rIxT K) (tVar 8) (tVar 3)) [some (.ref g), some (.ref c), some (.ref q), some (.int (t : Int)), some (.int (h : Int)), some (.int (w : Int)), some (.int r), some (.int a), some (.ref p), some (.ref f), none, none] H4 (.ref y) := ev_ixT (est_of (ev_var rfl) (ex_t e4 sp)) (ev_var rfl) hx
  have isS : sideAhead h w cs r a t = (inCell h w cs (pairOf r a t).1.1 (pairOf r a t).1.2 != inCell h w cs (pairOf r a t).2.1 (pairOf r a t).2.2) := rfl
  generalize (pairOf r a t).1.1 = r1 at *
  generalize (pairOf r a t).1.2 = a1 at *
  generalize (pairOf r a t).2.1 = r2 at *
  generalize (pairOf r a t).2.2 = a2 at *
  refine q_forT (K := K) tgt (ex_t e4 sy) (fun n σ' H' => ∃ y10 y11, σ' = [some (.ref g), some (.ref c), some (.ref q), some (.int (t : Int)), some (.int (h : Int)), some (.int (w : Int)), some (.int r), some (.int a), some (.ref p), some (.ref f), y10, y11] ∧ (∀ b o, b ≠ f → H4 b = some o → H' b = some o) ∧ H' f = some (.lst (([inCell h w cs r1 a1, inCell h w cs r2 a2].take n).map V.bl)))
    (fun H5 e5 => ⟨_, _, rfl, fun b o _ hb => e5 _ _ hb, e5 _ _ h4⟩) (fun n σ' H' _ hP => ?_) (fun n x σ' H' hx hP => ?_) (fun σ' H' hP => ?_)
  · obtain ⟨_, _, _, hb, _⟩ := hP
    have ex3 : Ex H3 H' := fun b o ho => hb b o (ne_of_none ho hf) (e4 _ _ ho)
    exact ex_t ex3 sy
  · obtain ⟨y10, y11, rfl, hb, hl⟩ := hP
    have ex3 : Ex H3 H' := fun b o ho => hb b o (ne_of_none ho hf) (e4 _ _ ho)
    have hcX : SqL K H' c (cs.map V.int) := ex_l (((e1.trans e2).trans e3).trans ex3) hc
    have val' : ∀ (r1 a1 : Int), Ev (tAndV (tChain oLe oLt (tC (.int 0)) (tVar 10) (tVar 4)) (tAndV (tChain oLe oLt (tC (.int 0)) (tVar 11) (tVar 5)) (tOp (rIn K false) (tOp oAdd (tOp oMul (tVar 10) (tVar 5)) (tVar 11)) (tVar 1))))
        [some (.ref g), some (.ref c), some (.ref q), some (.int (t : Int)), some (.int (h : Int)), some (.int (w : Int)), some (.int r), some (.int a), some (.ref p), some (.ref f), some (.int r1), some (.int a1)] H' (.bl (inCell h w cs r1 a1)) := fun r1 a1 =>
      ev_andV (ev_chain (x := .int 0) (y := .int r1) (z := .int (h : Int)) ev_c (ev_var rfl) rv_I0 (fun _ => ev_var rfl) (fun _ => rv_I0)) (fun _ => ev_andV (ev_chain (x := .int 0) (y := .int a1) (z := .int (w : Int)) ev_c (ev_var rfl) rv_I0 (fun _ => ev_var rfl) (fun _ => rv_I0))
        (fun _ => ev_isIn (ev_op (x := .int (r1 * (w : Int))) (y := .int a1) (ev_op (x := .int r1) (y := .int (w : Int)) (ev_var rfl) (ev_var rfl) (rv_I (.inr ⟨by omega, by omega⟩))) (ev_var rfl) rv_I0) (es_of (ev_var rfl) hcX)))
    have hn : n = 0 ∨ n = 1 := by
      have := (List.getElem?_eq_some_iff.mp hx).1
      simp only [List.length_cons, List.length_nil] at this
      omega
    rcases hn with rfl | rfl
    · have : x = .ref pu := (Option.some.inj hx).symm
      subst this
      refine ⟨pu, _, rfl, ex_t ex3 su, rfl, _, _, rfl, _, _, rfl, rfl, ?_⟩
      refine s_app (K := K) (l := f) hl (ev_var rfl) (val' r1 a1) (by simp) fun H6 e6 => ⟨_, _, rfl, fun b o nb hb' => ?_, ?_⟩
      · rw [upd_ne nb]
        exact e6 _ _ (hb b o nb hb')
      · rw [upd_same]
        rfl
    · have : x = .ref pv := (Option.some.inj hx).symm
      subst this
      refine ⟨pv, _, rfl, ex_t ex3 sv, rfl, _, _, rfl, _, _, rfl, rfl, ?_⟩
      refine s_app (K := K) (l := f) hl (ev_var rfl) (val' r2 a2) (by simp) fun H6 e6 => ⟨_, _, rfl, fun b o nb hb' => ?_, ?_⟩
      · rw [upd_ne nb]
        exact e6 _ _ (hb b o nb hb')
      · rw [upd_same]
        rfl
  · obtain ⟨y10, y11, rfl, hb, hl⟩ := hP
    have ex3 : Ex H3 H' := fun b o ho => hb b o (ne_of_none ho hf) (e4 _ _ ho)
    have hl' : H' f = some (.lst [.bl (inCell h w cs r1 a1), .bl (inCell h w cs r2 a2)]) := hl
    refine s_ret (v := .bl (sideAhead h w cs r a t)) (ev_is (ev_op (x := .bl (inCell h w cs r1 a1)) (y := .bl (inCell h w cs r2 a2)) (ev_ixS (es_of (ev_var rfl) (sq_of hl')) ev_c (atI_nat (j := 0) rfl)) (ev_ixS (es_of (ev_var rfl) (sq_of hl')) ev_c (atI_nat (j := 1) rfl)) (rv_ne rfl)) ?_) fun H5 e5 => k H5 ((((e1.trans e2).trans e3).trans ex3).trans e5)
    rw [isS]
    cases inCell h w cs r1 a1 <;> cases inCell h w cs r2 a2 <;> rfl

/-! ### walk -/
def NewPts (K : PySem.W.Frag) (pts : List (Int × Int)) (H1 : Hp) (v : V) (H2 : Hp) : Prop := ∃ p qs, v = .ref p ∧ H1 p = none ∧ H2 p = some (.lst (qs.map V.ref)) ∧ Prs K H2 qs pts
theorem NewPts.back {K : PySem.W.Frag} {pts : List (Int × Int)} {H0 H1 H2 : Hp} {v : V} (e : Ex H0 H1) (h : NewPts K pts H1 v H2) : NewPts K pts H0 v H2 := by
  obtain ⟨p, qs, rfl, hp, h2, h3⟩ := h
  exact ⟨p, qs, rfl, fresh_back e hp, h2, h3⟩
def OkW (K : PySem.W.Frag) (C : Ad) (H : Hp) (Q : VK) (E : XK) : Addr → Nat → Nat → List Int → Prop := fun _ h w cs =>
  (isRing h w cs = false ∧ RetE C.cNoRing H E) ∨ (isRing h w cs = true ∧ ∃ pts, walkOf h w cs = some pts ∧ RetP (NewPts K pts) H Q)
def sp_walk (K : PySem.W.Frag) (C : Ad) : Sp := fun vs H Q E => ∃ v u, vs = [v, u] ∧ DoorGC K C v u H Q E (OkW K C H Q E)
theorem ep_walk {K : PySem.W.Frag} {C : Ad} {σ : L2.St} {H : Hp} {ta tb : TE} {E : XK} {h w : Nat} {cs : List Int} {pts : List (Int × Int)} (ha : EvST K ta σ H [.int (h : Int), .int (w : Int)]) (gk : GOk h w) (hc : EvS K tb σ H (cs.map V.int)) (ck : COk h w cs) (hi : isRing h w cs = true) (hp : walkOf h w cs = some pts) :
    EvP (tCall (sp_walk K C) [] E (tCons ta (tCons tb tNil))) σ H (NewPts K pts) := fun H1 e Q q =>
  ha H1 e _ fun g H2 e2 hg => hc H2 (e.trans e2) _ fun c H3 e3 hc3 => ⟨_, _, rfl, .inr ⟨g, h, w, rfl, ex_t e3 hg, gk, .inr ⟨c, cs, rfl, hc3, ck, .inr ⟨hi, pts, hp, fun v H4 e4 z => q v H4 ((e2.trans e3).trans e4) (z.back (e2.trans e3))⟩⟩⟩⟩
def t_walk (K : PySem.W.Frag) (C : Ad) (E : XK) : TS := (tSeq (tDrop (tCall (sp_check_grid K C) [] E (tCons (tVar 0) tNil)))
      (tSeq (tDrop (tCall (sp_check_cells K C) [] E (tCons (tVar 0) (tCons (tVar 1) tNil))))
      (tSeq (tIfS (tNot (tB (tCall (sp_is_ring K) [] E0 (tCons (tVar 0) (tCons (tVar 1) tNil))))) (tRaise E (.ref C.cNoRing)) tNext)
      (tSeq (tAsg (tTup (tCons (tOp oDiv (tOp (rIxL K) (tVar 1) (tC (.int 0))) (tOp (rIxT K) (tVar 0) (tC (.int 1)))) (tCons (tOp oMod (tOp (rIxL K) (tVar 1) (tC (.int 0))) (tOp (rIxT K) (tVar 0) (tC (.int 1)))) tNil))) (gName 2))
      (tSeq (tAsg (tTup (tCons (tTup (tCons (tC (.int 0)) (tCons (tC (.int 1)) tNil))) (tCons (tTup (tCons (tC (.int 1)) (tCons (tC (.int 0)) tNil))) (tCons (tTup (tCons (tC (.int 0)) (tCons (tUn oNeg (tC (.int 1))) tNil))) (tCons (tTup (tCons (tUn oNeg (tC (.int 1))) (tCons (tC (.int 0)) tNil))) tNil))))) (gName 3))
      (tSeq (tPar 4 5 (tCons (tLst (tCons (tVar 2) tNil)) (tCons (tC (.int 0)) tNil)))
      (tSeq (tAsg (tTup (tCons (tOp (rIxT K) (tVar 2) (tC (.int 0))) (tCons (tOp oAdd (tOp (rIxT K) (tVar 2) (tC (.int 1))) (tC (.int 1))) tNil))) (gName 6))
      (tSeq (tWhile (tTest (tOp (rNeD K) (tVar 6) (tVar 2))) (tSeq (tDrop (tBM K "list" rAppend (tVar 4) (tCons (tVar 6) tNil)))
      (tSeq (tAsg (tOp oMod (tOp oAdd (tVar 5) (tC (.int 2))) (tC (.int 4))) (gName 7))
      (tSeq (tAsg (tOp (rIxL K) (tLc (iRng1 (tCons (tC (.int 4)) tNil)) (gName 8) (tAnd (tTest (tOp rNe (tVar 8) (tVar 7))) (tB (tCall (sp_side_ahead K) [] E0 (tCons (tVar 0) (tCons (tVar 1) (tCons (tVar 6) (tCons (tVar 8) tNil))))))) (tVar 8) [8]) (tC (.int 0))) (gName 5))
      (tAsg (tTup (tCons (tOp oAdd (tOp (rIxT K) (tVar 6) (tC (.int 0))) (tOp (rIxT K) (tOp (rIxT K) (tVar 3) (tVar 5)) (tC (.int 0)))) (tCons (tOp oAdd (tOp (rIxT K) (tVar 6) (tC (.int 1))) (tOp (rIxT K) (tOp (rIxT K) (tVar 3) (tVar 5)) (tC (.int 1)))) tNil))) (gName 6))))))
      (tRet (tVar 4))))))))))
def dS (t : Nat) : PyData := dP (stepOf t).1 (stepOf t).2
theorem eqv_dP (a b c d : Int) : PyData.eqv (dP a b) (dP c d) = decide (a = c ∧ b = d) := by
  unfold dP
  rw [Bool.eq_iff_iff]
  simp [PyData.eqv, PyData.eqvAll]
theorem shaped_dP (a b : Int) : SeqAt.shaped (dP a b) = true := by
  have e1 : PyData.canLay0 (dP a b) = true := by
    unfold dP
    simp [PyData.canLay0, PyData.canLayAll0]
  have e2 : PyData.depth (dP a b) ≤ 64 := by
    unfold dP
    simp [PyData.depth, PyData.depthAll]
  unfold SeqAt.shaped
  rw [e1, decide_eq_true e2]
  rfl
theorem pure_walk {K : PySem.W.Frag} {C : Ad} {vs : List V} {H : Hp} {Q : VK} {E : XK} {D : Ends} (hD : D.rt = Q) (h : sp_walk K C vs H Q E) : t_walk K C E D (start ["grid", "cells", "first", "steps", "found", "turn", "here", "back", "way"] vs) H := by
  obtain ⟨v, u, rfl, hd⟩ := h
  subst hD
  change t_walk K C E D [some v, some u, none, none, none, none, none, none, none] H
  refine q_checks rfl rfl hd fun g h w c cs H1 hv hu e1 hs gk hc ck hok => ?_
  subst hv hu
  clear hd
  have cl := cok_len gk ck
  have gb := gk
  obtain ⟨g1, g2, g3, g4⟩ := gb
  have ir := ev_is_ring (K := K) (E := E0) (σ := [some (.ref g), some (.ref c), none, none, none, none, none, none, none]) (H := H1) (ta := tCons (tVar 0) (tCons (tVar 1) tNil)) (ea_cons (ev_var rfl) (ea_cons (ev_var rfl) ea_nil)) hs gk hc ck.1 (by omega)
  rcases hok with ⟨hi, q⟩ | ⟨hi, pts, hw, q⟩
  · rw [hi] at ir
    exact q_when (et_not (et_B ir)) (fun _ H2 e2 => q H2 (e1.trans e2)) (fun z => nomatch z)
  · rw [hi] at ir
    refine q_when (et_not (et_B ir)) (fun z => nomatch z) (fun _ H2 e2 => ?_)
    have hs2 := ex_t e2 hs
    have hc2 := ex_l e2 hc
    have it : Ev (tOp (rIxL K) (tVar 1) (tC (.int 0))) [some (.ref g), some (.ref c), none, none, none, none, none, none, none] H2 (.int (cs.headD 0)) := ev_ixS (es_of (ev_var rfl) hc2) ev_c (at_first ck.1)
    have wt : Ev (tOp (rIxT K) (tVar 0) (tC (.int 1))) [some (.ref g), some (.ref c), none, none, none, none, none, none, none] H2 (.int (w : Int)) := by walk_at "ev"
    unfold walkOf at hw
    generalize hfr : cs.headD 0 / (w : Int) = fr at *
    generalize hfc : cs.headD 0 % (w : Int) = fc at *
    refine q_asgU (i := 2) (xs := [.int fr, .int fc]) (eu_tup (ea_cons (by rw [← hfr]; exact ev_op it wt (rv_I ⟨by omega, by omega⟩)) (ea_cons (by rw [← hfc]; exact ev_op it wt (rv_I (by show (0 : Int) < _; omega))) ea_nil)) (by simp)) fun fp H3 hfp e3 h3 => ?_
    refine q_asgD (K := K) (i := 3) (d := .tuple [dS 0, dS 1, dS 2, dS 3]) (ed_tup (ead_cons (d := dS 0) (ed_pair (a := 0) (b := 1) ev_c ev_c) (ead_cons (d := dS 1) (ed_pair (a := 1) (b := 0) ev_c ev_c) (ead_cons (d := dS 2) (ed_pair (a := 0) (b := -1) ev_c (ev_un ev_c ru_neg)) (ead_cons (d := dS 3) (ed_pair (a := -1) (b := 0) (ev_un ev_c ru_neg) ev_c) ead_nil)))) (by simp)) fun v H4 e4 hv => ?_
    obtain ⟨sp, x0, x1, x2, x3, rfl, ss, d0, d1, d2, d3⟩ := dp_four hv
    have pk := fun {t : Nat} (ht : t < 4) => pick4 dS d0 d1 d2 d3 ht
    refine q_parL1 (i := 4) (j := 5) (xs := [.ref fp]) (y := .int 0) (el_lst (ea_cons (ev_var rfl) ea_nil) (by simp)) ev_c fun p H5 hp e5 h5 => ?_
    have h3' : ∀ {H'}, Ex H3 H' → SqT K H' fp [.int fr, .int fc] := fun e => st_of (e _ _ h3)
    have f0 : Ev (tOp (rIxT K) (tVar 2) (tC (.int 0))) [some (.ref g), some (.ref c), some (.ref fp), some (.ref sp), some (.ref p), some (.int 0), none, none, none] H5 (.int fr) := ev_ixT (est_of (ev_var rfl) (h3' (e4.trans e5))) ev_c (atI_nat (j := 0) rfl)
    have f1 : Ev (tOp (rIxT K) (tVar 2) (tC (.int 1))) [some (.ref g), some (.ref c), some (.ref fp), some (.ref sp), some (.ref p), some (.int 0), none, none, none] H5 (.int fc) := ev_ixT (est_of (ev_var rfl) (h3' (e4.trans e5))) ev_c (atI_nat (j := 1) rfl)
    refine q_asgU (i := 6) (xs := [.int fr, .int (fc + 1)]) (eu_tup (ea_cons f0 (ea_cons (ev_op f1 (ev_c (v := .int 1)) rv_I0) ea_nil)) (by simp)) fun hp6 H6 hhp e6 h6 => ?_
    have b4 : Ex H H4 := ((e1.trans e2).trans e3).trans e4
    refine q_while (fun m σ' H' => ∃ (f : List (Int × Int)) (t : Nat) (r a : Int) (hr : Addr) (qs : List Addr) (y7 : Option V), σ' = [some (.ref g), some (.ref c), some (.ref fp), some (.ref sp), some (.ref p), some (.int (t : Int)), some (.ref hr), y7, none] ∧ Ex H4 H' ∧ H' p = some (.lst (qs.map V.ref)) ∧ Prs K H' qs f ∧ SqT K H' hr [.int r, .int a] ∧ t < 4 ∧ f.length + m ≤ 201 ∧ walkGo h w cs fr fc m f t r a = some pts)
      200 ⟨[(fr, fc)], 0, fr, fc + 1, hp6, [fp], none, rfl, e5.trans e6, e6 _ _ h5, .cons (h3' ((e4.trans e5).trans e6)) .nil, st_of h6, by decide, by simp, hw⟩ fun m σ' H' hW => ?_
    obtain ⟨f, t, r, a, hr, qs, y7, rfl, e7, h7, hps, hhr, ht, hm, hg⟩ := hW
    have hs7 : SqT K H' g [.int (h : Int), .int (w : Int)] := ex_t ((e3.trans e4).trans e7) hs2
    have hc7 : SqL K H' c (cs.map V.int) := ex_l ((e3.trans e4).trans e7) hc2
    refine ⟨!decide (r = fr ∧ a = fc), et_is (et_test (ev_neD (ed_of (ev_var rfl) (pair_dp hhr)) (ed_of (ev_var rfl) (pair_dp (h3' (e4.trans e7)))) (shaped_dP _ _) (shaped_dP _ _))) (by rw [eqv_dP]), fun hb H8 e8 => ?_, fun hb H8 e8 => ?_⟩
    · have hb' : ¬ (r = fr ∧ a = fc) := by
        rw [Bool.not_eq_true', decide_eq_false_iff_not] at hb
        exact hb
      cases m with
      | zero => cases hg
      | succ m =>
        unfold walkGo at hg
        rw [if_neg hb'] at hg
        cases hwy : ways h w cs r a t with
        | nil => rw [hwy] at hg; cases hg
        | cons y ys =>
          rw [hwy] at hg
          dsimp only at hg
          have yl : y < 4 := ways_lt (by rw [hwy]; exact List.mem_cons_self)
          refine ⟨fun σ2 H2 => ∃ (f : List (Int × Int)) (t : Nat) (r a : Int) (hr : Addr) (qs : List Addr) (y7 : Option V), σ2 = [some (.ref g), some (.ref c), some (.ref fp), some (.ref sp), some (.ref p), some (.int (t : Int)), some (.ref hr), y7, none] ∧ Ex H4 H2 ∧ H2 p = some (.lst (qs.map V.ref)) ∧ Prs K H2 qs f ∧ SqT K H2 hr [.int r, .int a] ∧ t < 4 ∧ f.length + m ≤ 201 ∧ walkGo h w cs fr fc m f t r a = some pts, fun σ2 H2 z => ⟨m, by omega, z⟩, ?_⟩
          have ql := Paired.length hps
          have prm : ∀ {Ha Hb : Hp}, (∀ b o, b ≠ p → Ha b = some o → Hb b = some o) → Ha p = some (.lst (qs.map V.ref)) → ∀ {q : Addr} {u v : V}, SqT K Ha q [u, v] → SqT K Hb q [u, v] := by
            intro Ha Hb k hap q u v sq
            rcases sq with (z | ⟨o, z⟩) | z
            · exact .inl (.inl (k _ _ (ne_of z hap (by intro z; cases z)) z))
            · exact .inl (.inr ⟨o, k _ _ (ne_of z hap (by intro z; cases z)) z⟩)
            · exact .inr z
          refine q_app (K := K) (l := p) (v := .ref hr) (e8 _ _ h7) (ev_var rfl) (ev_var rfl) (by rw [List.length_map, ql]; omega) fun H9 e9 => ?_
          have kp : ∀ b o, b ≠ p → H' b = some o → (upd H9 p (.lst (qs.map V.ref ++ [.ref hr]))) b = some o := fun b o nb hb => by rw [upd_ne nb]; exact e9 _ _ (e8 _ _ hb)
          have ex9 : Ex H4 (upd H9 p (.lst (qs.map V.ref ++ [.ref hr]))) := Ex.mut ((e7.trans e8).trans e9) hp
          have p9 : (upd H9 p (.lst (qs.map V.ref ++ [.ref hr]))) p = some (.lst (qs.map V.ref ++ [.ref hr])) := upd_same
          have hhr9 := prm kp h7 hhr
          have hps9 : Prs K (upd H9 p (.lst (qs.map V.ref ++ [.ref hr]))) (qs ++ [hr]) (f ++ [(r, a)]) := paired_snoc (Paired.mapP hps fun q pr z => prm kp h7 z) hhr9
          generalize upd H9 p (.lst (qs.map V.ref ++ [.ref hr])) = Hn at *
          have hsn : SqT K Hn g [.int (h : Int), .int (w : Int)] := ex_t ((e3.trans e4).trans ex9) hs2
          have hcn : SqL K Hn c (cs.map V.int) := ex_l ((e3.trans e4).trans ex9) hc2
          refine q_asg (i := 7) (v := .int (((t + 2) % 4 : Nat) : Int)) (ev_is (ev_op (x := .int ((t : Int) + 2)) (y := .int 4) (ev_op (x := .int (t : Int)) (y := .int 2) (ev_var rfl) ev_c rv_I0) ev_c (rv_I (by show (0 : Int) < 4; decide))) (by show V.int (((t : Int) + 2) % 4) = _; congr 1)) fun H10 e10 => ?_
          have l := el_lcR (σ := [some (.ref g), some (.ref c), some (.ref fp), some (.ref sp), some (.ref p), some (.int (t : Int)), some (.ref hr), some (.int (((t + 2) % 4 : Nat) : Int)), none]) (H := H10) (t := tAnd (tTest (tOp rNe (tVar 8) (tVar 7))) (tB (tCall (sp_side_ahead K) [] E0 (tCons (tVar 0) (tCons (tVar 1) (tCons (tVar 6) (tCons (tVar 8) tNil))))))) (te := tVar 8) (j := 8) (vs := [8]) (n := 4) (ta := tCons (tC (.int 4)) tNil)
            (fun y => !decide (y = (t + 2) % 4) && sideAhead h w cs r a y) (fun y => V.int (y : Int)) (ea_cons ev_c ea_nil) (by decide) (fun _ => rfl)
            (fun i H11 e11 hi => et_and (et_is (et_test (ev_op (x := .int (i : Int)) (y := .int (((t + 2) % 4 : Nat) : Int)) (ev_var rfl) (ev_var rfl) (rv_ne rfl))) (by rw [Bool.eq_iff_iff]; simp only [Bool.not_eq_true', decide_eq_false_iff_not, V.int.injEq]; omega)) (fun _ => et_B (ev_side_ahead (ea_cons (ev_var rfl) (ea_cons (ev_var rfl) (ea_cons (ev_var rfl) (ea_cons (ev_var rfl) ea_nil)))) (ex_t (e10.trans e11) hsn) gk (ex_l (e10.trans e11) hcn) (ex_t (e10.trans e11) hhr9) hi))) (fun i H11 e11 hi _ => ev_var rfl)
          have lw : (((List.range 4).filter fun (y : Nat) => !decide (y = (t + 2) % 4) && sideAhead h w cs r a y).map fun (y : Nat) => V.int (y : Int)) = (ways h w cs r a t).map fun (y : Nat) => V.int (y : Int) := rfl
          rw [lw, hwy] at l
          refine q_asg (i := 5) (v := .int (y : Int)) (ev_ixS (es_new l) ev_c (atI_nat (j := 0) rfl)) fun H11 e11 => ?_
          obtain ⟨xt, hxt, dxt⟩ := pk yl
          obtain ⟨pt, rfl, spt⟩ := dp_pair dxt
          have hh11 := ex_t (e10.trans e11) hhr9
          have e4n : Ex H4 H11 := ex9.trans (e10.trans e11)
          have sti : Ev (tOp (rIxT K) (tVar 3) (tVar 5)) [some (.ref g), some (.ref c), some (.ref fp), some (.ref sp), some (.ref p), some (.int (y : Int)), some (.ref hr), some (.int (((t + 2) % 4 : Nat) : Int)), none] H11 (.ref pt) := ev_ixT (est_of (ev_var rfl) (ex_t e4n ss)) (ev_var rfl) hxt
          refine s_asgU (i := 6) (xs := [.int (r + (stepOf y).1), .int (a + (stepOf y).2)]) (eu_tup (ea_cons (ev_op (ev_ixT (est_of (ev_var rfl) hh11) ev_c (atI_nat (j := 0) rfl)) (ev_ixT (est_of sti (ex_t e4n spt)) ev_c (atI_nat (j := 0) rfl)) rv_I0) (ea_cons (ev_op (ev_ixT (est_of (ev_var rfl) hh11) ev_c (atI_nat (j := 1) rfl)) (ev_ixT (est_of sti (ex_t e4n spt)) ev_c (atI_nat (j := 1) rfl)) rv_I0) ea_nil)) (by simp)) fun hr' H12 hhr' e12 h12 => ?_
          refine ⟨f ++ [(r, a)], y, _, _, hr', qs ++ [hr], _, rfl, e4n.trans e12, ?_, hps9.mono ((e10.trans e11).trans e12), st_of h12, yl, by rw [List.length_append]; simp; omega, hg⟩
          rw [e12 _ _ (e11 _ _ (e10 _ _ p9)), List.map_append]
          rfl
    · have hb' : r = fr ∧ a = fc := by simpa using hb
      have hpts : f = pts := by
        cases m with
        | zero => cases hg
        | succ m =>
          unfold walkGo at hg
          rw [if_pos hb'] at hg
          exact Option.some.inj hg
      subst hpts
      refine s_ret (ev_var rfl) fun H9 e9 => q _ H9 (b4.trans (e7.trans (e8.trans e9))) ⟨p, qs, rfl, fresh_back b4 hp, e9 _ _ (e8 _ _ h7), hps.mono (e8.trans e9)⟩

/-! ### the script, the law's promise -/
def ScriptOk (ns : List Int) : Prop := ns.length ≤ 63 ∧ ∀ z ∈ ns, Builtin.Int.intBits z ≤ 1048576
def sp_law (K : PySem.W.Frag) : Sp := fun vs H Q _ => ∃ a ns, vs = [.ref a] ∧ SqL K H a ((ns : List Int).map V.int) ∧ ScriptOk ns ∧ ∀ H', Q (.bl true) H'
theorem cutTo (xs : List V) (n : Nat) : cutV xs none (some (n : Int)) = xs.take n := by
  unfold cutV
  rw [HT.sIx_none, HT.sIx_nat, List.drop_zero, Nat.sub_zero]
  rcases Nat.le_total n xs.length with h | h
  · rw [Nat.min_eq_left h]
  · rw [Nat.min_eq_right h, List.take_of_length_le h, List.take_length]
/-- sum(script[:63]) -/
theorem ev_sum63 {K : PySem.W.Frag} {σ : L2.St} {H : Hp} {a : Addr} {ns : List Int} (h0 : σ[0]? = some (some (.ref a))) (hn : SqL K H a (ns.map V.int)) : Ev (tCB (rSum K) (tCons (tSl (rSlL K) (tVar 0) tNoPart (tPart (tC (.int 63)))) tNil)) σ H (.int (ns.take 63).sum) := by
  have sl := el_sl (K := K) (te := tVar 0) (σ := σ) (H := H) (hi := some 63) (ev_var (i := 0) h0) eo_none (eo_some ev_c) hn
  rw [show (some (63 : Int)) = some ((63 : Nat) : Int) from rfl, cutTo, ← List.map_take] at sl
  exact ev_sumS (es_new sl)

/-! ### data that avoids an address; rows copied; answers' classes -/
def del (H : Hp) (l : Addr) : Hp := fun a => if a = l then none else H a
theorem del_self {H : Hp} {l : Addr} : del H l l = none := if_pos rfl
theorem del_ne {H : Hp} {l a : Addr} (h : a ≠ l) : del H l a = H a := if_neg h
theorem del_ex (H : Hp) (l : Addr) : Ex (del H l) H := fun a o h => by
  by_cases e : a = l
  · rw [e, del_self] at h; cases h
  · rw [del_ne e] at h; exact h
theorem del_mono {H H' : Hp} (l : Addr) (e : Ex H H') : Ex (del H l) (del H' l) := fun a o h => by
  by_cases e1 : a = l
  · rw [e1, del_self] at h; cases h
  · rw [del_ne e1] at h ⊢; exact e _ _ h
theorem ex_del {H H' : Hp} {l : Addr} (hl : H l = none) (e : Ex H H') : Ex H (del H' l) := fun a o h => by
  rw [del_ne (ne_of_none h hl)]
  exact e _ _ h
theorem del_upd (H : Hp) (l : Addr) (o : HO) : del (upd H l o) l = del H l := by
  funext a
  by_cases e : a = l
  · rw [e, del_self, del_self]
  · rw [del_ne e, del_ne e, upd_ne e]
mutual
/-- every list in it is shorter than n -/
def shortD (n : Nat) : PyData → Bool
  | .list xs => decide (xs.length < n) && shortAll n xs
  | .tuple xs => shortAll n xs
  | _ => true
def shortAll (n : Nat) : List PyData → Bool
  | [] => true
  | x :: xs => shortD n x && shortAll n xs
end
mutual
theorem dp_del {K : PySem.W.Frag} {H : Hp} {l : Addr} {zs : List V} {n : Nat} (hl : H l = some (.lst zs)) (hz : n ≤ zs.length) : ∀ {v : V} {d : PyData}, Dp K H v d → shortD n d = true → Dp K (del H l) v d
  | _, _, .non, _ => .non
  | _, _, .bl b, _ => .bl b
  | _, _, .int i, _ => .int i
  | _, _, .str x, _ => .str x
  | _, _, @Dp.lst _ _ a xs ds h hs, hn => by
    rw [shortD, Bool.and_eq_true, decide_eq_true_eq] at hn
    have len := dpAll_len hs
    refine .lst ?_ (dpAll_del hl hz hs hn.2)
    rcases h with (h | ⟨o, h⟩) | h
    · have ne : a ≠ l := fun e => by
        rw [e, hl] at h
        have := HO.lst.inj (Option.some.inj h)
        rw [this] at hz
        omega
      exact .inl (.inl (by rw [del_ne ne]; exact h))
    · have ne : a ≠ l := fun e => by rw [e, hl] at h; cases h
      exact .inl (.inr ⟨o, by rw [del_ne ne]; exact h⟩)
    · exact .inr h
  | _, _, @Dp.tup _ _ a xs ds h hs, hn => by
    rw [shortD] at hn
    refine .tup ?_ (dpAll_del hl hz hs hn)
    rcases h with (h | ⟨o, h⟩) | h
    · have ne : a ≠ l := fun e => by rw [e, hl] at h; cases h
      exact .inl (.inl (by rw [del_ne ne]; exact h))
    · have ne : a ≠ l := fun e => by rw [e, hl] at h; cases h
      exact .inl (.inr ⟨o, by rw [del_ne ne]; exact h⟩)
    · exact .inr h
theorem dpAll_del {K : PySem.W.Frag} {H : Hp} {l : Addr} {zs : List V} {n : Nat} (hl : H l = some (.lst zs)) (hz : n ≤ zs.length) : ∀ {vs : List V} {ds : List PyData}, DpAll K H vs ds → shortAll n ds = true → DpAll K (del H l) vs ds
  | _, _, .nil, _ => .nil
  | _, _, .cons h hs, hn => by
    rw [shortAll, Bool.and_eq_true] at hn
    exact .cons (dp_del hl hz h hn.1) (dpAll_del hl hz hs hn.2)
end
theorem dpAll_append {K : PySem.W.Frag} {H : Hp} : ∀ {vs us : List V} {ds es : List PyData}, DpAll K H vs ds → DpAll K H us es → DpAll K H (vs ++ us) (ds ++ es)
  | [], _, [], _, .nil, h => h
  | _ :: _, _, _ :: _, _, .cons g gs, h => .cons g (dpAll_append gs h)
theorem dpAll_get {K : PySem.W.Frag} {H : Hp} : ∀ {vs : List V} {ds : List PyData} {i : Nat} {v : V}, DpAll K H vs ds → vs[i]? = some v → ∃ d, ds[i]? = some d ∧ Dp K H v d
  | _ :: _, _ :: _, 0, _, .cons h _, e => by
    have := Option.some.inj e
    subst this
    exact ⟨_, rfl, h⟩
  | _ :: _, _ :: _, i + 1, v, .cons _ hs, e => dpAll_get (i := i) (v := v) hs e
/-- rows from data -/
theorem ints_of_dp {K : PySem.W.Frag} {H : Hp} : ∀ {vs : List V} {ns : List Int}, DpAll K H vs (ns.map PyData.int) → vs = ns.map V.int
  | _, [], .nil => rfl
  | _, n :: ns, .cons h hs => by
    cases h
    rw [ints_of_dp hs]
    rfl
theorem row_of_dp {K : PySem.W.Frag} {H : Hp} {v : V} {ns : List Int} (h : Dp K H v (dI ns)) : ∃ r, v = .ref r ∧ SqL K H r (ns.map V.int) := by
  unfold dI at h
  cases h with
  | lst hs ha =>
    rw [ints_of_dp ha] at hs
    exact ⟨_, rfl, hs⟩
theorem rows_of_dpAll {K : PySem.W.Frag} {H : Hp} : ∀ {vs : List V} {nss : List (List Int)}, DpAll K H vs (nss.map dI) → ∃ rs, vs = rs.map V.ref ∧ Paired (fun (r : Addr) (ns : List Int) => SqL K H r (ns.map V.int)) rs nss
  | _, [], .nil => ⟨[], rfl, .nil⟩
  | _, ns :: nss, .cons h hs => by
    obtain ⟨r, rfl, hr⟩ := row_of_dp h
    obtain ⟨rs, rfl, hp⟩ := rows_of_dpAll hs
    exact ⟨r :: rs, rfl, .cons hr hp⟩
theorem rows_of_dp {K : PySem.W.Frag} {H : Hp} {v : V} {nss : List (List Int)} (h : Dp K H v (dII nss)) : ∃ a, v = .ref a ∧ RowsAt K H a nss := by
  unfold dII at h
  cases h with
  | lst hs ha =>
    obtain ⟨rs, rfl, hp⟩ := rows_of_dpAll ha
    exact ⟨_, rfl, rs, hs, hp⟩
section
variable {K : PySem.W.Frag} {σ : L2.St} {H H' : Hp} {ta tb te tl : TE} {tr : TA} {t : TT} {D : Ends} {tu tz : TS} {d : PyData} {ds es : List PyData}
/-- [list(row) for row in rows] -/
theorem ep_copyRows {j : Nat} {vs : List Nat} {a : Addr} {nss : List (List Int)} (h : Ev tl σ H (.ref a)) (hr : RowsAt K H a nss) (hz : nss.length ≤ 40000) (hw : ∀ x, wipe ((wipe σ vs).set j (some x)) vs = wipe σ vs) (hj : ∀ x : V, ((wipe σ vs).set j (some x))[j]? = some (some x)) :
    EvP (tLc (iList K tl) (gName j) tYes (tCB (rListS K) (tCons (tVar j) tNil)) vs) σ H (fun H1 v H2 => NewLL H1 v H2 (ints2 nss)) := fun H0 e Q q => h H0 e _ fun H1 e1 => by
  obtain ⟨rs, h1, h2⟩ := hr.mono (e.trans e1)
  have ln : (rs.map V.ref).length = nss.length := by rw [List.length_map]; exact Paired.length h2
  refine ⟨a, rfl, ⟨_, h1⟩, fun Dl hD => lc_list (xs := rs.map V.ref) (fun n H' => H1 Dl = none ∧ Ex H1 H' ∧ ∃ bs : List (Addr × List Int), H' Dl = some (.lst (bs.map toV)) ∧ bs.map (·.2) = nss.take n ∧ ∀ b ∈ bs, (H1 b.1 = none ∧ b.1 ≠ Dl) ∧ H' b.1 = some (.lst (b.2.map V.int))) ⟨hD, Ex.new hD, [], upd_same, rfl, fun b hb => nomatch hb⟩ (fun i H' _ p => ex_l p.2.1 h1) (fun i x H' hi p => ?_) (fun H' p => ?_)⟩
  · rw [List.getElem?_map] at hi
    obtain ⟨r, hri, rfl⟩ := Option.map_eq_some_iff.mp hi
    obtain ⟨ns, hns, hs⟩ := paired_get h2 hri
    obtain ⟨p1, p2, bs, p3, p4, p5⟩ := p
    have bl : bs.length ≤ nss.length := by
      have := congrArg List.length p4
      rw [List.length_map, List.length_take] at this
      omega
    refine ⟨hw _, ?_⟩
    show tCB (rListS K) (tCons (tVar j) tNil) _ H' _
    refine el_listS (K := K) (es_of (ev_var (hj _)) (ex_l p2 hs)) H' (Ex.refl H') _ fun q' H3 hq e3 h3 => ?_
    have ne : q' ≠ Dl := (ne_of_none p3 hq).symm
    refine ⟨_, e3 _ _ p3, sz_lt (by rw [List.length_map]; omega), p1, Ex.mut (p2.trans e3) p1, bs ++ [(q', ns)], ?_, ?_, fun b hb => ?_⟩
    · rw [upd_same, List.map_append]; rfl
    · rw [List.map_append, p4, take_snoc hns]; rfl
    · rcases List.mem_append.mp hb with hb | hb
      · have z := p5 b hb
        refine ⟨z.1, ?_⟩
        rw [upd_ne z.1.2]
        exact e3 _ _ z.2
      · have : b = (q', ns) := by simpa using hb
        subst this
        exact ⟨⟨fresh_back p2 hq, ne⟩, by rw [upd_ne ne]; exact h3⟩
  · rw [ln, List.take_length] at p
    obtain ⟨p1, p2, bs, p3, rfl, p5⟩ := p
    exact q _ H' (e1.trans p2) (NewLL.of (fresh_back e1 p1) p3 fun b hb => ⟨fresh_back e1 (p5 b hb).1.1, (p5 b hb).2⟩)
/-- x = [data, ..] -/
theorem q_asgLD {i : Nat} (h : EvAD K tr σ H ds) (hl : ds.length ≤ 1000) (k : ∀ p vs H1, H p = none → Ex H H1 → H1 p = some (.lst vs) → DpAll K (del H1 p) vs ds → tz D (σ.set i (some (.ref p))) H1) : tSeq (tAsg (tLst tr) (gName i)) tz D σ H :=
  h H (Ex.refl H) _ fun vs H1 e hs => ⟨sz_of (by rw [dpAll_len hs]; omega), fun p hp => k p vs _ (fresh_back e hp) (e.trans (Ex.new hp)) upd_same (by rw [del_upd]; exact DpAll.mono (ex_del hp (Ex.refl H1)) hs)⟩
/-- x = y + [data, ..] -/
theorem s_catLD {i : Nat} {f : Addr} {vs : List V} (hf : H f = some (.lst vs)) (hd : DpAll K (del H f) vs ds) (ha : Ev ta σ H (.ref f)) (h : EvAD K tr σ H es) (hl : ds.length + es.length ≤ 1000) (k : ∀ p us H1, H p = none → Ex H H1 → H1 p = some (.lst us) → DpAll K (del H1 p) us (ds ++ es) → D.nx (σ.set i (some (.ref p))) H1) :
    tAsg (tOp rCat ta (tLst tr)) (gName i) D σ H :=
  ha H (Ex.refl H) _ fun H1 e1 => h H1 e1 _ fun us H2 e2 hs => ⟨sz_of (by rw [dpAll_len hs]; omega), fun b hb => ⟨f, b, vs, us, rfl, rfl, Ex.new hb _ _ (e2 _ _ (e1 _ _ hf)), upd_same, sz_of (by rw [dpAll_len hs, dpAll_len hd]; omega), fun p hp => by
    have e3 : Ex H2 (upd H2 b (.lst us)) := Ex.new hb
    have e13 := (e1.trans e2).trans e3
    refine k p _ _ (fresh_back e13 hp) (e13.trans (Ex.new hp)) upd_same ?_
    rw [del_upd]
    have e4 := ex_del hp (Ex.refl (upd H2 b (.lst us)))
    exact DpAll.mono e4 (dpAll_append (DpAll.mono ((del_ex H f).trans e13) hd) (DpAll.mono e3 hs))⟩⟩
theorem q_catLD {i : Nat} {f : Addr} {vs : List V} (hf : H f = some (.lst vs)) (hd : DpAll K (del H f) vs ds) (ha : Ev ta σ H (.ref f)) (h : EvAD K tr σ H es) (hl : ds.length + es.length ≤ 1000) (k : ∀ p us H1, H p = none → Ex H H1 → H1 p = some (.lst us) → DpAll K (del H1 p) us (ds ++ es) → tz D (σ.set i (some (.ref p))) H1) :
    tSeq (tAsg (tOp rCat ta (tLst tr)) (gName i)) tz D σ H := s_catLD (D := { D with nx := tz D }) hf hd ha h hl k
/-- y + [data, ..] as data -/
theorem ed_cat {f : Addr} {vs : List V} (hf : H f = some (.lst vs)) (hd : DpAll K (del H f) vs ds) (ha : Ev ta σ H (.ref f)) (h : EvAD K tr σ H es) (hl : ds.length + es.length ≤ 1000) : EvD K (tOp rCat ta (tLst tr)) σ H (.list (ds ++ es)) := fun H0 e0 Q q =>
  ha H0 e0 _ fun H1 e1 => h H1 (e0.trans e1) _ fun us H2 e2 hs => ⟨sz_of (by rw [dpAll_len hs]; omega), fun b hb => ⟨f, b, vs, us, rfl, rfl, Ex.new hb _ _ (e2 _ _ (e1 _ _ (e0 _ _ hf))), upd_same, sz_of (by rw [dpAll_len hs, dpAll_len hd]; omega), fun p hp => by
    have e3 : Ex H2 (upd H2 b (.lst us)) := Ex.new hb
    refine q _ _ (((e1.trans e2).trans e3).trans (Ex.new hp)) (.lst (sq_of upd_same) ?_)
    exact DpAll.mono (Ex.new hp) (dpAll_append (DpAll.mono ((del_ex H f).trans (((e0.trans e1).trans e2).trans e3)) hd) (DpAll.mono e3 hs))⟩⟩
/-- xs.append(e), e any result -/
theorem s_appP {l : Addr} {xs : List V} {R : Hp → V → Hp → Prop} (hl : H l = some (.lst xs)) (ha : Ev ta σ H (.ref l)) (h : EvP te σ H R) (hR : ∀ {H0 H1 v H2}, Ex H0 H1 → R H1 v H2 → R H0 v H2) (hz : xs.length < 100000) (k : ∀ v H1, Ex H H1 → R H v H1 → D.nx σ (upd H1 l (.lst (xs ++ [v])))) :
    tDrop (tBM K "list" rAppend ta (tCons te tNil)) D σ H := ha H (Ex.refl H) _ fun H1 e1 =>
  ⟨Or.inl ⟨rfl, xs, sq_of (e1 l _ hl)⟩, h H1 e1 _ fun v H2 e2 z => ⟨l, xs, v, rfl, rfl, e2 l _ (e1 l _ hl), sz_lt hz, k v H2 (e1.trans e2) (hR e1 z)⟩⟩
theorem q_appP {l : Addr} {xs : List V} {R : Hp → V → Hp → Prop} (hl : H l = some (.lst xs)) (ha : Ev ta σ H (.ref l)) (h : EvP te σ H R) (hR : ∀ {H0 H1 v H2}, Ex H0 H1 → R H1 v H2 → R H0 v H2) (hz : xs.length < 100000) (k : ∀ v H1, Ex H H1 → R H v H1 → tz D σ (upd H1 l (.lst (xs ++ [v])))) :
    tSeq (tDrop (tBM K "list" rAppend ta (tCons te tNil))) tz D σ H := s_appP (D := { D with nx := tz D }) hl ha h hR hz k
/-- [e] * k -/
theorem el_rep {n : Nat} {xs : List V} (ha : EvL ta σ H xs) (hb : Ev tb σ H (.int (n : Int))) (hn : n ≤ 1000) (hl : xs.length ≤ 90) : EvL (tOp rRep ta tb) σ H (List.replicate n xs).flatten := fun H1 e Q q =>
  ha H1 e _ fun p H2 hp e2 h2 => hb H2 (e.trans e2) _ fun H3 e3 => ⟨p, (n : Int), xs, rfl, rfl, e3 _ _ h2, by omega, by omega, sz_of (by rw [Int.toNat_natCast]; exact Nat.le_trans (Nat.mul_le_mul hl hn) (by decide)), fun l hl => by
    rw [Int.toNat_natCast]
    exact q l _ (fresh_back (e2.trans e3) hl) ((e2.trans e3).trans (Ex.new hl)) upd_same⟩
end
/-! ### the classes of answers -/
structure Ci (K : PySem.W.Frag) (c : Addr) : Prop where
  cl : Cls K c
  ha : PySem.W.findIn K (.ref c) "__class__" = some (some (.builtin "object.__class__"))
  hn : PySem.W.specialIn K (.builtin "object.__class__") "__get__" = some (some (.builtin "getset_descriptor.__get__"))
  htk : PySem.W.takesIn K (.builtin "object.__class__") = some true
  hm : PySem.W.mroIn K c (.type "object") = some true
theorem Ci.ty {K : PySem.W.Frag} {H : Hp} {a c dx : Addr} {fs : List (Str × V)} (k : Ci K c) (h : H a = some (.ins c dx fs)) : TyX K H (.ref a) (.ref c) := .base (.ins h k.cl k.ha k.hn k.htk k.hm)
theorem ev_isiC {K : PySem.W.Frag} {σ : L2.St} {H : Hp} {ta : TE} {a c dx e : Addr} {fs : List (Str × V)} {b : Bool} (ha : Ev ta σ H (.ref a)) (h : H a = some (.ins c dx fs)) (k : Ci K c) (hk : PySem.W.kitOne K (.ref c) (.ref e) = some b) : Ev (tCB (rIsi K) (tCons ta (tCons (tC (.ref e)) tNil))) σ H (.bl b) :=
  ev_isi ha ev_c (.own e) (fun _ x => k.ty (x _ _ h)) hk
theorem ep_numbersS {K : PySem.W.Frag} {C : Ad} {σ : L2.St} {H : Hp} {ta tb : TE} {E : XK} {h w : Nat} {cs : List Int} (ha : EvST K ta σ H [.int (h : Int), .int (w : Int)]) (gk : GOk h w) (hc : EvS K tb σ H (cs.map V.int)) (ck : COk h w cs) :
    EvP (tCall (sp_numbers K C) [] E (tCons ta (tCons tb tNil))) σ H (fun H1 v H2 => NewLL H1 v H2 (ints2 (numbersOf h w cs))) := fun H1 e Q q =>
  ha H1 e _ fun g H2 e2 hg => hc H2 (e.trans e2) _ fun c H3 e3 hc3 => ⟨_, _, rfl, .inr ⟨g, h, w, rfl, ex_t e3 hg, gk, .inr ⟨c, cs, rfl, hc3, ck, fun v H4 e4 z => q v H4 ((e2.trans e3).trans e4) (z.back (e2.trans e3))⟩⟩⟩
theorem cok_by {h w : Nat} {cs : List Int} (d : (decide (cs ≠ []) && (cs.all fun x => decide (0 ≤ x ∧ x < (h : Int) * w)) && !falls cs) = true) : COk h w cs := by
  simp only [Bool.and_eq_true, decide_eq_true_eq, List.all_eq_true, Bool.not_eq_true'] at d
  exact ⟨d.1.1, fun x hx => d.1.2 x hx, (falls_rising cs).mp d.2⟩
def dPts (pts : List (Int × Int)) : PyData := .list (pts.map fun p => dP p.1 p.2)
theorem dpAll_prs {K : PySem.W.Frag} {H : Hp} : ∀ {qs : List Addr} {pts : List (Int × Int)}, Prs K H qs pts → DpAll K H (qs.map V.ref) (pts.map fun p => dP p.1 p.2)
  | [], [], .nil => .nil
  | _ :: _, _ :: _, .cons h hs => .cons (pair_dp h) (dpAll_prs hs)
theorem NewPts.dp {K : PySem.W.Frag} {pts : List (Int × Int)} {H1 H2 : Hp} {v : V} (h : NewPts K pts H1 v H2) : Dp K H2 v (dPts pts) := by
  obtain ⟨p, qs, rfl, hp, h2, h3⟩ := h
  exact .lst (sq_of h2) (dpAll_prs h3)
theorem walkGo_len {h w : Nat} {cs : List Int} {fr fc : Int} : ∀ (k : Nat) (f : List (Int × Int)) (t : Nat) (r c : Int) {pts : List (Int × Int)}, walkGo h w cs fr fc k f t r c = some pts → pts.length ≤ f.length + k
  | 0, _, _, _, _, _, h => nomatch h
  | k + 1, f, t, r, c, pts, hg => by
    unfold walkGo at hg
    split at hg
    · have := Option.some.inj hg
      rw [← this]
      omega
    · cases hw : ways h w cs r c t with
      | nil => rw [hw] at hg; cases hg
      | cons y ys =>
        rw [hw] at hg
        have := walkGo_len k _ _ _ _ hg
        rw [List.length_append] at this
        simp at this
        omega
theorem walkOf_len {h w : Nat} {cs : List Int} {pts : List (Int × Int)} (hw : walkOf h w cs = some pts) : pts.length ≤ 201 := walkGo_len 200 _ _ _ _ hw
theorem sort_eq {l s : List (List Int)} (hp : l.Perm s) (hs : s.Pairwise (· ≤ ·)) : (l.mergeSort fun p q => decide (p ≤ q)) = s := by
  have p1 : (l.mergeSort fun p q => decide (p ≤ q)).Perm s := (List.mergeSort_perm l _).trans hp
  have s1 : (l.mergeSort fun p q => decide (p ≤ q)).Pairwise (fun a b => decide (a ≤ b) = true) := List.pairwise_mergeSort (fun a b c h1 h2 => by
    simp only [decide_eq_true_eq] at h1 h2 ⊢
    exact List.le_trans h1 h2) (fun a b => by
    simp only [Bool.or_eq_true, decide_eq_true_eq]
    exact List.le_total a b) l
  exact p1.eq_of_pairwise (fun a b _ _ h1 h2 => List.le_antisymm h1 h2) (s1.imp fun h => of_decide_eq_true h) hs

/-! ### answers as they stand, and their own word -/
def TldAt (K : PySem.W.Frag) (C : Ad) (H : Hp) (v : V) : Tld → Prop
  | .never => ∃ p dx, v = .ref p ∧ H p = some (.ins C.cNever dx [])
  | .one a => ∃ p dx l, v = .ref p ∧ H p = some (.ins C.cOne dx (fldsC (.ref l))) ∧ SqL K H l (a.map V.int)
  | .two a b => ∃ p dx l m, v = .ref p ∧ H p = some (.ins C.cTwo dx (flds2 (.ref l) (.ref m))) ∧ SqL K H l (a.map V.int) ∧ SqL K H m (b.map V.int)
theorem TldAt.mono {K : PySem.W.Frag} {C : Ad} {H H' : Hp} {v : V} {t : Tld} (e : Ex H H') (h : TldAt K C H v t) : TldAt K C H' v t := by
  cases t with
  | never =>
    obtain ⟨p, dx, rfl, h⟩ := h
    exact ⟨p, dx, rfl, e _ _ h⟩
  | one a =>
    obtain ⟨p, dx, l, rfl, h, h1⟩ := h
    exact ⟨p, dx, l, rfl, e _ _ h, ex_l e h1⟩
  | two a b =>
    obtain ⟨p, dx, l, m, rfl, h, h1, h2⟩ := h
    exact ⟨p, dx, l, m, rfl, e _ _ h, ex_l e h1, ex_l e h2⟩
theorem NewTold.at {K : PySem.W.Frag} {C : Ad} {H1 H2 : Hp} {v : V} {t : Tld} (h : NewTold C t H1 v H2) : TldAt K C H2 v t := by
  cases t with
  | never =>
    obtain ⟨p, dx, rfl, _, h⟩ := h
    exact ⟨p, dx, rfl, h⟩
  | one a =>
    obtain ⟨p, dx, l, rfl, _, _, h, h1⟩ := h
    exact ⟨p, dx, l, rfl, h, sq_of h1⟩
  | two a b =>
    obtain ⟨p, dx, l, m, rfl, _, _, _, _, h, h1, h2⟩ := h
    exact ⟨p, dx, l, m, rfl, h, sq_of h1, sq_of h2⟩
def showsC (nss : List (List Int)) : Tld → Bool
  | .never => decide (fittingOf nss = [])
  | .one a => decide (fittingOf nss = [a])
  | .two a b => twoShows nss a b
theorem toldM_shows (nss : List (List Int)) (hd : (fittingOf nss).Nodup) : showsC nss (toldM nss) = true := by
  unfold toldM
  cases h : fittingOf nss with
  | nil => exact decide_eq_true h
  | cons a r =>
    cases r with
    | nil => exact decide_eq_true h
    | cons b r =>
      show twoShows nss a b = true
      unfold twoShows
      rw [h] at hd ⊢
      have : a ≠ b := fun e => (List.nodup_cons.mp hd).1 (by rw [e]; exact List.mem_cons_self)
      simp [this]
section
variable {K : PySem.W.Frag} {C : Ad} {σ : L2.St} {H : Hp} {ta tb tc : TE} {v : V} {a g c : Addr}
theorem ev_showsC {t : Tld} {nss : List (List Int)} (ha : Ev ta σ H v) (h : TldAt K C H v t) (hb : Ev tb σ H (.ref a)) (hr : RowsAt K H a nss) (ck : CluesR nss) :
    Ev (tAlt (tMeth C.cOne "shows" (sp_One_shows K C) [] E0 ta (tCons tb tNil)) (tAlt (tMeth C.cTwo "shows" (sp_Two_shows K C) [] E0 ta (tCons tb tNil)) (tMeth C.cNever "shows" (sp_Never_shows K) [] E0 ta (tCons tb tNil)))) σ H (.bl (showsC nss t)) := fun H1 e Q q => by
  cases t with
  | one ns =>
    refine .inl (ha H1 e _ fun H2 e2 => ?_)
    obtain ⟨p, dx, l, rfl, h1, h2⟩ := h.mono (e.trans e2)
    exact ⟨p, dx, _, rfl, h1, fldsC_shows, hb H2 (e.trans e2) _ fun H3 e3 => ⟨p, a, dx, l, nss, ns, rfl, e3 _ _ h1, ex_l e3 h2, hr.mono ((e.trans e2).trans e3), ck, fun H4 e4 => q H4 ((e2.trans e3).trans e4)⟩⟩
  | two ns ms =>
    refine .inr (.inl (ha H1 e _ fun H2 e2 => ?_))
    obtain ⟨p, dx, l, m, rfl, h1, h2, h3⟩ := h.mono (e.trans e2)
    exact ⟨p, dx, _, rfl, h1, flds2_shows, hb H2 (e.trans e2) _ fun H3 e3 => ⟨p, a, dx, l, m, nss, ns, ms, rfl, e3 _ _ h1, ex_l e3 h2, ex_l e3 h3, hr.mono ((e.trans e2).trans e3), ck, fun H4 e4 => q H4 ((e2.trans e3).trans e4)⟩⟩
  | never =>
    refine .inr (.inr (ha H1 e _ fun H2 e2 => ?_))
    obtain ⟨p, dx, rfl, h1⟩ := h.mono (e.trans e2)
    exact ⟨p, dx, _, rfl, h1, rfl, hb H2 (e.trans e2) _ fun H3 e3 => ⟨p, a, nss, rfl, hr.mono ((e.trans e2).trans e3), ck, fun H4 e4 => q H4 ((e2.trans e3).trans e4)⟩⟩
end
def AnsAt (C : Ad) (H : Hp) (v : V) : Ans → Prop
  | .ring => ∃ p dx, v = .ref p ∧ H p = some (.ins C.cRing dx [])
  | .split x y => ∃ p dx, v = .ref p ∧ H p = some (.ins C.cSplit dx (flds2 (.int x) (.int y)))
  | .hole x => ∃ p dx, v = .ref p ∧ H p = some (.ins C.cHole dx (flds1 (.int x)))
theorem AnsAt.mono {C : Ad} {H H' : Hp} {v : V} {t : Ans} (e : Ex H H') (h : AnsAt C H v t) : AnsAt C H' v t := by
  cases t <;> (obtain ⟨p, dx, rfl, h⟩ := h; exact ⟨p, dx, rfl, e _ _ h⟩)
theorem NewAns.at {C : Ad} {H1 H2 : Hp} {v : V} {t : Ans} (h : NewAns C t H1 v H2) : AnsAt C H2 v t := by
  cases t <;> (obtain ⟨p, dx, rfl, _, h⟩ := h; exact ⟨p, dx, rfl, h⟩)
def showsG (h w : Nat) (cs : List Int) : Ans → Bool
  | .ring => isRing h w cs
  | .split x y => splitShows h w cs x y
  | .hole x => holeShows h w cs x
section
variable {K : PySem.W.Frag} {C : Ad} {σ : L2.St} {H : Hp} {ta tb tc : TE} {v : V} {h w : Nat} {cs : List Int}
theorem ev_showsG {t : Ans} (ha : Ev ta σ H v) (h0 : AnsAt C H v t) (hb : EvST K tb σ H [.int (h : Int), .int (w : Int)]) (gk : GOk h w) (hc : EvS K tc σ H (cs.map V.int)) (hn : cs ≠ []) (hl : cs.length ≤ 1000) :
    Ev (tAlt (tMeth C.cRing "shows" (sp_Ring_shows K) [] E0 ta (tCons tb (tCons tc tNil))) (tAlt (tMeth C.cSplit "shows" (sp_Split_shows K C) [] E0 ta (tCons tb (tCons tc tNil))) (tMeth C.cHole "shows" (sp_Hole_shows K C) [] E0 ta (tCons tb (tCons tc tNil))))) σ H (.bl (showsG h w cs t)) := fun H1 e Q q => by
  cases t with
  | ring =>
    refine .inl (ha H1 e _ fun H2 e2 => ?_)
    obtain ⟨p, dx, rfl, h1⟩ := h0.mono (e.trans e2)
    exact ⟨p, dx, _, rfl, h1, rfl, hb H2 (e.trans e2) _ fun g H3 e3 hg => hc H3 ((e.trans e2).trans e3) _ fun c H4 e4 hc4 => ⟨p, g, c, h, w, cs, rfl, ex_t e4 hg, gk, hc4, hn, hl, fun H5 e5 => q H5 (((e2.trans e3).trans e4).trans e5)⟩⟩
  | split x y =>
    refine .inr (.inl (ha H1 e _ fun H2 e2 => ?_))
    obtain ⟨p, dx, rfl, h1⟩ := h0.mono (e.trans e2)
    exact ⟨p, dx, _, rfl, h1, flds2_shows, hb H2 (e.trans e2) _ fun g H3 e3 hg => hc H3 ((e.trans e2).trans e3) _ fun c H4 e4 hc4 => ⟨p, g, c, h, w, cs, dx, x, y, rfl, e4 _ _ (e3 _ _ h1), ex_t e4 hg, gk, hc4, hl, fun H5 e5 => q H5 (((e2.trans e3).trans e4).trans e5)⟩⟩
  | hole x =>
    refine .inr (.inr (ha H1 e _ fun H2 e2 => ?_))
    obtain ⟨p, dx, rfl, h1⟩ := h0.mono (e.trans e2)
    exact ⟨p, dx, _, rfl, h1, flds1_shows, hb H2 (e.trans e2) _ fun g H3 e3 hg => hc H3 ((e.trans e2).trans e3) _ fun c H4 e4 hc4 => ⟨p, g, c, h, w, cs, dx, x, rfl, e4 _ _ (e3 _ _ h1), ex_t e4 hg, gk, hc4, fun H5 e5 => q H5 (((e2.trans e3).trans e4).trans e5)⟩⟩
end
/-! ### rising lists of lists are listed once -/
theorem cellsOf_inj {m j k : Nat} (hj : j < 2 ^ m) (hk : k < 2 ^ m) (e : cellsOf m j = cellsOf m k) : j = k := by
  have bit : ∀ c < m, j / 2 ^ c % 2 = k / 2 ^ c % 2 := fun c hc => by
    have mem : ∀ n, (c : Int) ∈ cellsOf m n ↔ n / 2 ^ c % 2 = 1 := fun n => by
      unfold cellsOf
      simp only [List.mem_map, List.mem_filter, List.mem_range, decide_eq_true_eq]
      constructor
      · rintro ⟨c', ⟨_, h⟩, e'⟩
        have : c' = c := by omega
        rw [← this]
        exact h
      · exact fun h => ⟨c, ⟨hc, h⟩, rfl⟩
    have h1 := mem j
    have h2 := mem k
    rw [e] at h1
    have : j / 2 ^ c % 2 = 1 ↔ k / 2 ^ c % 2 = 1 := h1.symm.trans h2
    omega
  have key : ∀ n, n ≤ m → j % 2 ^ n = k % 2 ^ n := by
    intro n
    induction n with
    | zero => intro _; simp [Nat.mod_one]
    | succ n ih =>
      intro hn
      rw [Nat.pow_succ, Nat.mod_mul, Nat.mod_mul, ih (by omega), bit n (by omega)]
  have := key m (Nat.le_refl m)
  rwa [Nat.mod_eq_of_lt hj, Nat.mod_eq_of_lt hk] at this
theorem ringsTo_nodup (h w i : Nat) (hi : i < 2 ^ (h * w)) : (ringsTo h w i).Nodup := by
  unfold ringsTo
  refine List.Pairwise.filter _ ?_
  rw [List.pairwise_map]
  refine List.Pairwise.imp_of_mem (R := fun a b => a < b) (fun {a b} ha hb hlt e => ?_) List.pairwise_lt_range
  have := List.mem_range.mp ha
  have := List.mem_range.mp hb
  have := cellsOf_inj (by omega) (by omega) e
  omega
theorem allRings_nodup (h w : Nat) : (allRings h w).Nodup := by
  unfold allRings
  have p : 1 ≤ 2 ^ (h * w) := Nat.one_le_two_pow
  exact (List.mergeSort_perm _ _).nodup_iff.mpr (ringsTo_nodup h w _ (by omega))
theorem fittingOf_nodup (nss : List (List Int)) : (fittingOf nss).Nodup := (allRings_nodup _ _).filter _
theorem told_shows (nss : List (List Int)) : showsC nss (toldM nss) = true := toldM_shows nss (fittingOf_nodup nss)
/-! ### clues written in place -/
section
variable {K : PySem.W.Frag} {C : Ad} {σ : L2.St} {H : Hp} {ta : TE} {E : XK} {nss : List (List Int)}
theorem ep_fittingD (ha : EvD K ta σ H (dII nss)) (hb : cluesB nss = true) : EvP (tCall (sp_fitting K C) [] E (tCons ta tNil)) σ H (fun H1 v H2 => NewLL H1 v H2 (ints2 (fittingOf nss))) := fun H1 e Q q =>
  ha H1 e _ fun v H2 e2 hv => by
    obtain ⟨a, rfl, hr⟩ := rows_of_dp hv
    exact ⟨_, rfl, doorC_good hr hb ⟨nss, hr, cluesB_R hb, fun v H3 e3 z => q v H3 (e2.trans e3) (z.back e2)⟩⟩
theorem ep_toldD (ha : EvD K ta σ H (dII nss)) (hb : cluesB nss = true) : EvP (tCall (sp_told K C) [] E (tCons ta tNil)) σ H (NewTold C (toldM nss)) := fun H1 e Q q =>
  ha H1 e _ fun v H2 e2 hv => by
    obtain ⟨a, rfl, hr⟩ := rows_of_dp hv
    exact ⟨_, rfl, doorC_good hr hb ⟨nss, hr, cluesB_R hb, fun v H3 e3 z => q v H3 (e2.trans e3) (z.back e2)⟩⟩
end

/-! ### _law_sound -/
mutual
def sndD : PyData → Bool
  | .int _ => true
  | .list xs => sndAll xs
  | .tuple xs => sndAll xs
  | _ => false
def sndAll : List PyData → Bool
  | [] => true
  | x :: xs => sndD x && sndAll xs
end
mutual
def szD : PyData → Nat
  | .list xs => szAll xs + 1
  | .tuple xs => szAll xs + 1
  | _ => 1
def szAll : List PyData → Nat
  | [] => 0
  | x :: xs => szD x + szAll xs
end
theorem szD_pos (d : PyData) : 1 ≤ szD d := by
  cases d <;> simp [szD]
theorem szAll_append : ∀ xs ys : List PyData, szAll (xs ++ ys) = szAll xs + szAll ys
  | [], ys => by simp [szAll]
  | x :: xs, ys => by rw [List.cons_append, szAll, szAll, szAll_append xs ys]; omega
theorem szAll_len : ∀ xs : List PyData, xs.length ≤ szAll xs
  | [] => Nat.le_refl _
  | x :: xs => by
    have := szAll_len xs
    have := szD_pos x
    rw [List.length_cons, szAll]
    omega
theorem sndAll_append : ∀ xs ys : List PyData, sndAll (xs ++ ys) = (sndAll xs && sndAll ys)
  | [], ys => by simp [sndAll]
  | x :: xs, ys => by rw [List.cons_append, sndAll, sndAll, sndAll_append xs ys, Bool.and_assoc]
theorem depthAll_append : ∀ xs ys : List PyData, PyData.depthAll (xs ++ ys) = max (PyData.depthAll xs) (PyData.depthAll ys)
  | [], ys => by simp [PyData.depthAll]
  | x :: xs, ys => by rw [List.cons_append, PyData.depthAll, PyData.depthAll, depthAll_append xs ys]; omega
mutual
theorem snd_lay : ∀ d : PyData, sndD d = true → PyData.canLay0 d = true
  | .none, h => nomatch h
  | .bool _, h => nomatch h
  | .str _, h => nomatch h
  | .dict _, h => nomatch h
  | .int _, _ => rfl
  | .list xs, h => by
    rw [PyData.canLay0]
    exact snd_layAll xs (by rw [sndD] at h; exact h)
  | .tuple xs, h => by
    rw [PyData.canLay0]
    exact snd_layAll xs (by rw [sndD] at h; exact h)
theorem snd_layAll : ∀ ds : List PyData, sndAll ds = true → PyData.canLayAll0 ds = true
  | [], _ => rfl
  | d :: ds, h => by
    rw [sndAll, Bool.and_eq_true] at h
    rw [PyData.canLayAll0, snd_lay d h.1, snd_layAll ds h.2]
    rfl
end
section
variable {K : PySem.W.Frag} {σ : L2.St} {H H' : Hp} {ta tb te tl : TE} {D : Ends} {tz : TS}
theorem q_pop {l : Addr} {us : List V} {u : V} {i : Nat} (hl : H l = some (.lst (us ++ [u]))) (ha : Ev ta σ H (.ref l)) (k : ∀ H1, Ex H H1 → tz D (σ.set i (some u)) (upd H1 l (.lst us))) : tSeq (tAsg (tBM0 K "list" rPop ta) (gName i)) tz D σ H :=
  ha H (Ex.refl H) _ fun H1 e1 => ⟨Or.inl ⟨rfl, _, sq_of (e1 l _ hl)⟩, l, us ++ [u], u, rfl, rfl, e1 l _ hl, by simp, by rw [List.dropLast_concat]; exact k H1 e1⟩
theorem el_listT {xs : List V} (ha : EvST K ta σ H xs) : EvL (tCB (rListS K) (tCons ta tNil)) σ H xs := fun H1 e Q q =>
  ha H1 e _ fun p H2 e2 h2 => ⟨p, xs, rfl, Or.inr h2, fun l hl => q l _ (fresh_back e2 hl) (e2.trans (Ex.new hl)) upd_same⟩
end
theorem kit_str {K : PySem.W.Frag} : ∀ n ∈ plainTypes, PySem.W.kitOne K (.type n) (.type "str") = some (n == "str") := by
  intro n hn
  have : kitB n "str" = some (n == "str") := by
    revert n hn
    decide +kernel
  exact kit_ty this
theorem ev_isiStr {K : PySem.W.Frag} {σ : L2.St} {H : Hp} {ta : TE} {v : V} {n : String} (ha : Ev ta σ H v) (hk : Known K H v n) : Ev (tCB (rIsi K) (tCons ta (tCons (tC (.ty "str")) tNil))) σ H (.bl (n == "str")) :=
  ev_isi ha ev_c (.ty "str") (fun _ e => (hk.mono e).1) (kit_str n hk.2)
theorem dpAll_last {K : PySem.W.Frag} {H : Hp} : ∀ {vs : List V} {ds : List PyData}, DpAll K H vs ds → ds ≠ [] → ∃ us u es d, vs = us ++ [u] ∧ ds = es ++ [d] ∧ DpAll K H us es ∧ Dp K H u d
  | [], [], .nil, h => absurd rfl h
  | [v], [d], .cons h .nil, _ => ⟨[], v, [], d, rfl, rfl, .nil, h⟩
  | v :: v2 :: vs, d :: d2 :: ds, .cons h hs, _ => by
    obtain ⟨us, u, es, e, h1, h2, h3, h4⟩ := dpAll_last hs (List.cons_ne_nil _ _)
    exact ⟨v :: us, u, d :: es, e, by rw [h1]; rfl, by rw [h2]; rfl, .cons h h3, h4⟩
def sp_l_sound (K : PySem.W.Frag) : Sp := fun vs H Q _ => ∃ v d, vs = [v] ∧ Dp K H v d ∧ sndD d = true ∧ d.depth ≤ 20 ∧ szD d ≤ 50000 ∧ RetV (.bl true) H Q
theorem ev_l_sound {K : PySem.W.Frag} {σ : L2.St} {H : Hp} {ta : TE} {E : XK} {d : PyData} (ha : EvD K ta σ H d) (hs : sndD d = true) (hd : d.depth ≤ 20) (hz : szD d ≤ 50000) : Ev (tCall (sp_l_sound K) [] E (tCons ta tNil)) σ H (.bl true) := fun H1 e Q q =>
  ha H1 e _ fun v H2 e2 hv => ⟨v, d, rfl, hv, hs, hd, hz, fun H3 e3 => q H3 (e2.trans e3)⟩
def t_l_sound (K : PySem.W.Frag) : TS := (tSeq (tAsg (tLst (tCons (tVar 0) tNil)) (gName 1))
      (tSeq (tWhile (tTest (tOp (rNeD K) (tVar 1) (tLst tNil))) (tSeq (tAsg (tBM0 K "list" rPop (tVar 1)) (gName 2))
      (tIfS (tOr (tB (tCB (rIsi K) (tCons (tVar 2) (tCons (tC (.ty "list")) tNil)))) (tB (tCB (rIsi K) (tCons (tVar 2) (tCons (tC (.ty "tuple")) tNil))))) (tDrop (tBM K "list" rExtend (tVar 1) (tCons (tCB (rListS K) (tCons (tVar 2) tNil)) tNil))) (tIfS (tOr (tB (tCB (rIsi K) (tCons (tVar 2) (tCons (tC (.ty "bool")) tNil)))) (tAnd (tTest (tOp rNotN (tVar 2) (tC .non))) (tAnd (tNot (tB (tCB (rIsi K) (tCons (tVar 2) (tCons (tC (.ty "int")) tNil))))) (tNot (tB (tCB (rIsi K) (tCons (tVar 2) (tCons (tC (.ty "str")) tNil)))))))) (tRet (tC (.bl false))) tNext))))
      (tRet (tC (.bl true)))))
theorem pure_l_sound {K : PySem.W.Frag} {vs : List V} {H : Hp} {Q : VK} {E : XK} {D : Ends} (hD : D.rt = Q) {N : List Str} (hN : N.length = 3) (h : sp_l_sound K vs H Q E) : t_l_sound K D (start N vs) H := by
  obtain ⟨v, d, rfl, hv, hsn, hdp, hsz, q⟩ := h
  subst hD
  rw [start_eq hN]
  change t_l_sound K D [some v, none, none] H
  refine q_asgL (i := 1) (xs := [v]) (el_lst (ea_cons (ev_var rfl) ea_nil) (by simp)) fun w H1 hw e1 h1 => ?_
  refine q_while (fun m σ' H' => ∃ us es y2, σ' = [some v, some (.ref w), y2] ∧ Ex H H' ∧ H' w = some (.lst us) ∧ DpAll K H us es ∧ sndAll es = true ∧ PyData.depthAll es ≤ 20 ∧ szAll es = m ∧ m ≤ 50000) (szAll [d]) ⟨[v], [d], none, rfl, e1, h1, .cons hv .nil, by simp [sndAll, hsn], by simp [PyData.depthAll]; omega, rfl, by simp [szAll]; omega⟩ fun m σ' H' hW => ?_
  obtain ⟨us, es, y2, rfl, e2, h2, hs, hsn, hdp, hm, hm2⟩ := hW
  have hs2 := DpAll.mono e2 hs
  have sh : SeqAt.shaped (.list es) = true := shaped_of_len (snd_layAll es hsn) (by omega)
  refine ⟨!decide (es = []), et_is (et_test (ev_neD (d := .list es) (ed_of (ev_var rfl) (.lst (sq_of h2) hs2)) ed_nil sh shaped_nil)) (by rw [eqv_nil]), fun hb H3 e3 => ?_, fun hb H3 e3 => ?_⟩
  · have hne : es ≠ [] := by simpa using hb
    obtain ⟨us', u, es', d', rfl, rfl, hs', hd'⟩ := dpAll_last hs hne
    rw [sndAll_append, Bool.and_eq_true] at hsn
    rw [depthAll_append] at hdp
    rw [szAll_append] at hm
    have sd : sndD d' = true := by simpa [sndAll] using hsn.2
    have dd : d'.depth ≤ 20 := by
      have : PyData.depthAll [d'] = d'.depth := by simp [PyData.depthAll]
      omega
    have zd : szAll [d'] = szD d' := by simp [szAll]
    have zp := szD_pos d'
    refine ⟨fun σ2 H2 => ∃ us es y2, σ2 = [some v, some (.ref w), y2] ∧ Ex H H2 ∧ H2 w = some (.lst us) ∧ DpAll K H us es ∧ sndAll es = true ∧ PyData.depthAll es ≤ 20 ∧ szAll es < m ∧ szAll es ≤ 50000, fun σ2 H2 z => ?_, ?_⟩
    · obtain ⟨us, es, y2, z1, z2, z3, z4, z5, z6, z7, z8⟩ := z
      exact ⟨szAll es, z7, us, es, y2, z1, z2, z3, z4, z5, z6, rfl, z8⟩
    refine q_pop (K := K) (i := 2) (e3 _ _ h2) (ev_var rfl) fun H4 e4 => ?_
    have e5 : Ex H (upd H4 w (.lst us')) := Ex.mut ((e2.trans e3).trans e4) hw
    have h5 : (upd H4 w (.lst us')) w = some (.lst us') := upd_same
    generalize upd H4 w (.lst us') = H5 at *
    have len : us'.length ≤ 50000 := by
      have := szAll_len es'
      rw [dpAll_len hs']
      omega
    have hd5 := Dp.mono e5 hd'
    have push : ∀ {xs : List V} {ds : List PyData} (H6 : Hp), Ex H5 H6 → DpAll K H xs ds → sndAll ds = true → PyData.depthAll ds ≤ 20 → szAll ds < szD d' → (upd H6 w (.lst (us' ++ xs))) w = some (.lst (us' ++ xs)) →
        ∃ us es y2, [some v, some (.ref w), some u] = [some v, some (.ref w), y2] ∧ Ex H (upd H6 w (.lst (us' ++ xs))) ∧ (upd H6 w (.lst (us' ++ xs))) w = some (.lst us) ∧ DpAll K H us es ∧ sndAll es = true ∧ PyData.depthAll es ≤ 20 ∧ szAll es < m ∧ szAll es ≤ 50000 := by
      intro xs ds H6 e6 h6 h7 h8 h9 h10
      refine ⟨us' ++ xs, es' ++ ds, _, rfl, Ex.mut (e5.trans e6) hw, h10, dpAll_append hs' h6, ?_, ?_, ?_, ?_⟩
      · rw [sndAll_append, hsn.1, h7]; rfl
      · rw [depthAll_append]; omega
      · rw [szAll_append]; omega
      · rw [szAll_append]; omega
    cases hd' with
    | int i =>
      refine s_if (b := false) (et_is (et_or (et_B (ev_isiList (ev_var rfl) (known_int i))) (fun _ => et_B (ev_isiTuple (ev_var rfl) (known_int i)))) rfl) (fun z => nomatch z) (fun _ H6 e6 => ?_)
      refine s_when (b := false) (et_is (et_or (et_B (ev_isiBool (ev_var rfl) (known_int i))) (fun _ => et_and (et_test (ev_op (ev_var rfl) ev_c rv_notN)) (fun _ => et_and (et_not (et_B (ev_isiInt (ev_var rfl) (known_int i)))) (fun _ => et_not (et_B (ev_isiStr (ev_var rfl) (known_int i))))))) (by simp)) (fun z => nomatch z) (fun _ H7 e7 => ?_)
      exact ⟨us', es', _, rfl, e5.trans (e6.trans e7), e7 _ _ (e6 _ _ h5), hs', hsn.1, by omega, by omega, by omega⟩
    | @lst a xs ds hl ha =>
      have hl5 : SqL K H5 a xs := ex_l e5 hl
      rw [sndD] at sd
      rw [PyData.depth] at dd
      have zz : szD (.list ds) = szAll ds + 1 := by rw [szD]
      have lx : xs.length ≤ 50000 := by
        have := szAll_len ds
        rw [dpAll_len ha]
        omega
      refine s_if (b := true) (et_is (et_or (b := false) (et_B (ev_isiList (ev_var rfl) ⟨ty_list hl5, by decide⟩)) (fun z => nomatch z)) rfl) (fun _ H6 e6 => ?_) (fun z => nomatch z)
      exact s_extL (K := K) (e6 _ _ h5) (ev_var rfl) (el_listS (es_of (ev_var rfl) (ex_l e6 hl5))) (by omega) fun H7 e7 => push H7 (e6.trans e7) ha sd (by omega) (by omega) upd_same
    | @tup a xs ds hl ha =>
      have hl5 : SqT K H5 a xs := ex_t e5 hl
      rw [sndD] at sd
      rw [PyData.depth] at dd
      have zz : szD (.tuple ds) = szAll ds + 1 := by rw [szD]
      have lx : xs.length ≤ 50000 := by
        have := szAll_len ds
        rw [dpAll_len ha]
        omega
      refine s_if (b := true) (et_is (et_or (et_B (ev_isiList (ev_var rfl) ⟨ty_tuple hl5, by decide⟩)) (fun _ => et_B (ev_isiTuple (ev_var rfl) ⟨ty_tuple hl5, by decide⟩))) rfl) (fun _ H6 e6 => ?_) (fun z => nomatch z)
      exact s_extL (K := K) (e6 _ _ h5) (ev_var rfl) (el_listT (est_of (ev_var rfl) (ex_t e6 hl5))) (by omega) fun H7 e7 => push H7 (e6.trans e7) ha sd (by omega) (by omega) upd_same
    | non => cases sd
    | bl b => cases sd
    | str x => cases sd
  · exact s_ret ev_c fun H4 e4 => q H4 ((e2.trans e3).trans e4)
/-! ### facts by reckoning -/
def chkWalk (h w : Nat) : Bool := (List.range (2 ^ (h * w) - 1)).all fun k => !isRing h w (cellsOf (h * w) (k + 1)) || (walkOf h w (cellsOf (h * w) (k + 1))).isSome
set_option maxHeartbeats 0 in
theorem walks3 : ((List.range 3).all fun h => (List.range 3).all fun w => chkWalk (h + 1) (w + 1) && isRing (h + 1) (w + 1) [0]) = true := by decide +kernel
theorem walk_some {h w : Nat} (h1 : 1 ≤ h) (h2 : h ≤ 3) (w1 : 1 ≤ w) (w2 : w ≤ 3) {cs : List Int} (hc : cs ∈ allRings h w) : ∃ pts, walkOf h w cs = some pts := by
  have a := List.all_eq_true.mp walks3 (h - 1) (List.mem_range.mpr (by omega))
  have b := List.all_eq_true.mp a (w - 1) (List.mem_range.mpr (by omega))
  rw [show h - 1 + 1 = h by omega, show w - 1 + 1 = w by omega, Bool.and_eq_true] at b
  obtain ⟨k, k0, k1, rfl, hr⟩ := allRings_mem hc
  have c := List.all_eq_true.mp b.1 (k - 1) (List.mem_range.mpr (by omega))
  rw [show k - 1 + 1 = k by omega, hr] at c
  exact Option.isSome_iff_exists.mp (by simpa using c)
theorem cells_one {m : Nat} (hm : 1 ≤ m) : cellsOf m 1 = [0] := by
  unfold cellsOf
  cases m with
  | zero => omega
  | succ m =>
    rw [List.range_succ_eq_map, List.filter_cons]
    have : (((List.range m).map Nat.succ).filter fun (c : Nat) => decide (1 / 2 ^ c % 2 = 1)) = [] := by
      rw [List.filter_eq_nil_iff]
      intro x hx
      obtain ⟨y, _, rfl⟩ := List.mem_map.mp hx
      have : 1 / 2 ^ (y + 1) = 0 := Nat.div_eq_of_lt (by have := Nat.one_lt_two_pow (n := y + 1) (by omega); omega)
      simp [this]
    rw [this]
    rfl
theorem rings_ne {h w : Nat} (h1 : 1 ≤ h) (h2 : h ≤ 3) (w1 : 1 ≤ w) (w2 : w ≤ 3) : 0 < (allRings h w).length := by
  have a := List.all_eq_true.mp walks3 (h - 1) (List.mem_range.mpr (by omega))
  have b := List.all_eq_true.mp a (w - 1) (List.mem_range.mpr (by omega))
  rw [show h - 1 + 1 = h by omega, show w - 1 + 1 = w by omega, Bool.and_eq_true] at b
  have hm : 1 ≤ h * w := Nat.mul_pos h1 w1
  have p2 : 2 ≤ 2 ^ (h * w) := by
    have := Nat.pow_le_pow_right (n := 2) (by decide) hm
    omega
  have : [0] ∈ allRings h w := by
    unfold allRings
    refine List.mem_mergeSort.mpr ?_
    unfold ringsTo
    refine List.mem_filter.mpr ⟨List.mem_map.mpr ⟨0, List.mem_range.mpr (by omega), cells_one hm⟩, b.2⟩
  exact List.length_pos_of_mem this
theorem sides_range (h w : Nat) (cs : List Int) (x : Int) : -1 ≤ sidesOf h w cs x ∧ sidesOf h w cs x ≤ 4 := by
  have n4 : near h w cs x ≤ 4 := by
    unfold near
    exact Nat.le_trans (List.length_filter_le _ _) (beside_len h w x)
  unfold sidesOf
  split <;> omega
theorem cluesB_numbers {h w : Nat} (gk : GOk h w) (hm : h * w ≤ 9) (cs : List Int) : cluesB (numbersOf h w cs) = true := by
  obtain ⟨g1, g2, g3, g4⟩ := gk
  have ln : (numbersOf h w cs).length = h := by unfold numbersOf; rw [List.length_map, List.length_range]
  have rows : ∀ ns ∈ numbersOf h w cs, ns.length = w ∧ ∀ n ∈ ns, -1 ≤ n ∧ n ≤ 4 := fun ns hn => by
    unfold numbersOf at hn
    obtain ⟨r, _, rfl⟩ := List.mem_map.mp hn
    refine ⟨by rw [List.length_map, List.length_range], fun n hn => ?_⟩
    obtain ⟨a, _, rfl⟩ := List.mem_map.mp hn
    exact sides_range h w cs _
  have hd : ((numbersOf h w cs).headD []).length = w := by
    cases e : numbersOf h w cs with
    | nil => rw [e] at ln; simp at ln; omega
    | cons a r => exact (rows a (by rw [e]; exact List.mem_cons_self)).1
  unfold cluesB
  rw [hd, ln]
  simp only [Bool.and_eq_true, List.all_eq_true, decide_eq_true_eq]
  exact ⟨⟨⟨g1, g2⟩, ⟨g3, g4⟩, hm⟩, fun ns hn => (rows ns hn).1, fun ns hn n h => (rows ns hn).2 n h⟩
theorem cluesB_free {h w : Nat} (gk : GOk h w) (hm : h * w ≤ 9) : cluesB (List.replicate h (List.replicate w (-1))) = true := by
  obtain ⟨g1, g2, g3, g4⟩ := gk
  have hd : ((List.replicate h (List.replicate w (-1 : Int))).headD []).length = w := by
    cases h with
    | zero => omega
    | succ h => exact List.length_replicate ..
  unfold cluesB
  rw [hd, List.length_replicate]
  simp only [Bool.and_eq_true, List.all_eq_true, decide_eq_true_eq]
  refine ⟨⟨⟨g1, g2⟩, ⟨g3, g4⟩, hm⟩, fun ns hn => ?_, fun ns hn n h => ?_⟩
  · rw [List.eq_of_mem_replicate hn, List.length_replicate]
  · rw [List.eq_of_mem_replicate hn] at h
    rw [List.eq_of_mem_replicate h]
    decide
/-! sizes and soundness -/
theorem snd_ints : ∀ ns : List Int, sndAll (ns.map PyData.int) = true ∧ szAll (ns.map PyData.int) = ns.length ∧ PyData.depthAll (ns.map PyData.int) = 0
  | [] => by simp [sndAll, szAll, PyData.depthAll]
  | n :: ns => by
    obtain ⟨h1, h2, h3⟩ := snd_ints ns
    refine ⟨by simp [sndAll, sndD, h1], by simp [szAll, szD, h2]; omega, by simp [PyData.depthAll, PyData.depth, h3]⟩
theorem snd_dI (ns : List Int) : sndD (dI ns) = true ∧ szD (dI ns) = ns.length + 1 ∧ (dI ns).depth = 1 := by
  obtain ⟨h1, h2, h3⟩ := snd_ints ns
  unfold dI
  exact ⟨by rw [sndD]; exact h1, by rw [szD, h2], by rw [PyData.depth, h3]⟩
theorem snd_rows {L : Nat} : ∀ nss : List (List Int), (∀ ns ∈ nss, ns.length ≤ L) → sndAll (nss.map dI) = true ∧ szAll (nss.map dI) ≤ nss.length * (L + 1) ∧ PyData.depthAll (nss.map dI) ≤ 1
  | [], _ => by simp [sndAll, szAll, PyData.depthAll]
  | ns :: nss, h => by
    obtain ⟨h1, h2, h3⟩ := snd_rows nss fun m hm => h m (List.mem_cons_of_mem _ hm)
    obtain ⟨g1, g2, g3⟩ := snd_dI ns
    have := h ns List.mem_cons_self
    refine ⟨by simp [sndAll, g1, h1], ?_, by rw [List.map_cons, PyData.depthAll, g3]; omega⟩
    rw [List.map_cons, szAll, g2, List.length_cons, Nat.succ_mul]
    omega
/-- good data: sound, small -/
def Gd (n : Nat) (d : PyData) : Prop := sndD d = true ∧ szD d ≤ n ∧ d.depth ≤ 10
def GdA (n : Nat) (ds : List PyData) : Prop := sndAll ds = true ∧ szAll ds ≤ n ∧ PyData.depthAll ds ≤ 10
theorem GdA.nil : GdA 0 [] := ⟨rfl, Nat.le_refl _, by simp [PyData.depthAll]⟩
theorem GdA.cons {m n : Nat} {d : PyData} {ds : List PyData} (h : Gd m d) (hs : GdA n ds) : GdA (m + n) (d :: ds) := ⟨by rw [sndAll, h.1, hs.1]; rfl, by rw [szAll]; have := h.2.1; have := hs.2.1; omega, by rw [PyData.depthAll]; have := h.2.2; have := hs.2.2; omega⟩
theorem GdA.append {m n : Nat} {ds es : List PyData} (h : GdA m ds) (hs : GdA n es) : GdA (m + n) (ds ++ es) := ⟨by rw [sndAll_append, h.1, hs.1]; rfl, by rw [szAll_append]; have := h.2.1; have := hs.2.1; omega, by rw [depthAll_append]; have := h.2.2; have := hs.2.2; omega⟩
theorem GdA.le {m n : Nat} {ds : List PyData} (h : GdA m ds) (e : m ≤ n) : GdA n ds := ⟨h.1, Nat.le_trans h.2.1 e, h.2.2⟩
theorem gd_rows {L M : Nat} {nss : List (List Int)} (h : ∀ ns ∈ nss, ns.length ≤ L) (hm : nss.length ≤ M) : Gd (M * (L + 1) + 1) (dII nss) := by
  obtain ⟨h1, h2, h3⟩ := snd_rows nss h
  refine ⟨by unfold dII; rw [sndD]; exact h1, ?_, by unfold dII; rw [PyData.depth]; omega⟩
  unfold dII
  rw [szD]
  have := Nat.mul_le_mul_right (L + 1) hm
  omega
theorem gd_dI {L : Nat} {ns : List Int} (h : ns.length ≤ L) : Gd (L + 1) (dI ns) := by
  obtain ⟨h1, h2, h3⟩ := snd_dI ns
  exact ⟨h1, by omega, by omega⟩
theorem gd_int (i : Int) : Gd 1 (.int i) := ⟨rfl, by simp [szD], by simp [PyData.depth]⟩
theorem snd_pts : ∀ pts : List (Int × Int), sndAll (pts.map fun p => dP p.1 p.2) = true ∧ szAll (pts.map fun p => dP p.1 p.2) = pts.length * 3 ∧ PyData.depthAll (pts.map fun p => dP p.1 p.2) ≤ 1
  | [] => by simp [sndAll, szAll, PyData.depthAll]
  | p :: pts => by
    obtain ⟨h1, h2, h3⟩ := snd_pts pts
    refine ⟨by rw [List.map_cons, sndAll, h1]; rfl, by rw [List.map_cons, szAll, h2]; simp [dP, szD, szAll]; omega, ?_⟩
    rw [List.map_cons, PyData.depthAll]
    have : (dP p.1 p.2).depth = 1 := by simp [dP, PyData.depth, PyData.depthAll]
    omega
theorem gd_pts {M : Nat} {pts : List (Int × Int)} (h : pts.length ≤ M) : Gd (M * 3 + 1) (dPts pts) := by
  obtain ⟨h1, h2, h3⟩ := snd_pts pts
  refine ⟨by unfold dPts; rw [sndD]; exact h1, ?_, by unfold dPts; rw [PyData.depth]; omega⟩
  unfold dPts
  rw [szD, h2]
  omega
theorem gd_rings {h w : Nat} (hm : h * w ≤ 9) : Gd 5121 (dII (allRings h w)) := by
  refine gd_rows (L := 9) (M := 512) (fun ns hn => ?_) (allRings_len h w hm)
  obtain ⟨k, _, _, rfl, _⟩ := allRings_mem hn
  exact Nat.le_trans (cellsOf_len _ _) hm
theorem gd_fit {nss : List (List Int)} (ck : CluesR nss) : Gd 5121 (dII (fittingOf nss)) := by
  refine gd_rows (L := 9) (M := 512) (fun ns hn => ?_) (Nat.le_trans (List.length_filter_le _ _) (allRings_len _ _ ck.few))
  obtain ⟨k, _, _, rfl, _⟩ := allRings_mem (List.mem_filter.mp hn).1
  exact Nat.le_trans (cellsOf_len _ _) ck.few
theorem gd_numbers {h w : Nat} (gk : GOk h w) (cs : List Int) : Gd 43 (dII (numbersOf h w cs)) := by
  refine gd_rows (L := 6) (M := 6) (fun ns hn => ?_) (by unfold numbersOf; rw [List.length_map, List.length_range]; exact gk.2.1)
  unfold numbersOf at hn
  obtain ⟨r, _, rfl⟩ := List.mem_map.mp hn
  rw [List.length_map, List.length_range]
  exact gk.2.2.2
/-! shortness -/
theorem short_ints (n : Nat) : ∀ ns : List Int, shortAll n (ns.map PyData.int) = true
  | [] => rfl
  | x :: xs => by rw [List.map_cons, shortAll, short_ints n xs]; rfl
theorem short_rows {n : Nat} : ∀ nss : List (List Int), (∀ ns ∈ nss, ns.length < n) → shortAll n (nss.map dI) = true
  | [], _ => rfl
  | ns :: nss, h => by
    rw [List.map_cons, shortAll, short_rows nss fun m hm => h m (List.mem_cons_of_mem _ hm)]
    have := h ns List.mem_cons_self
    unfold dI
    rw [shortD, short_ints, List.length_map, decide_eq_true this]
    rfl
theorem short_clues {nss : List (List Int)} (h : cluesB nss = true) : shortD 7 (dII nss) = true := by
  unfold cluesB at h
  simp only [Bool.and_eq_true, List.all_eq_true, decide_eq_true_eq] at h
  obtain ⟨⟨h1, h2, h3⟩, h4, h5⟩ := h
  unfold dII
  rw [shortD, List.length_map, short_rows nss fun ns hn => by rw [h4 ns hn]; omega, decide_eq_true (by omega)]
  rfl

/-! ### the law -/
theorem flat_rep {α : Type} (x : α) : ∀ n : Nat, (List.replicate n [x]).flatten = List.replicate n x
  | 0 => rfl
  | n + 1 => by rw [List.replicate_succ, List.flatten_cons, List.replicate_succ, flat_rep x n]; rfl
theorem dpAll_rep {K : PySem.W.Frag} {H : Hp} {v : V} {d : PyData} (h : Dp K H v d) : ∀ n : Nat, DpAll K H (List.replicate n v) (List.replicate n d)
  | 0 => .nil
  | n + 1 => .cons h (dpAll_rep h n)
theorem NewLL.avoid {f : Addr} {o : HO} {H1 H2 : Hp} {v : V} {nss : List (List Int)} (hf : H1 f = some o) (h : NewLL H1 v H2 (ints2 nss)) : NewLL H1 v (del H2 f) (ints2 nss) := by
  obtain ⟨p, ps, rfl, hp, h2, hr⟩ := h
  refine ⟨p, ps, rfl, hp, ?_, Paired.mapP hr fun q xs z => ⟨z.1, ?_⟩⟩
  · rw [del_ne (ne_of_none hf hp).symm]; exact h2
  · rw [del_ne (ne_of_none hf z.1).symm]; exact z.2
theorem NewTold.avoid {C : Ad} {f : Addr} {o : HO} {H1 H2 : Hp} {v : V} {t : Tld} (hf : H1 f = some o) (h : NewTold C t H1 v H2) : NewTold C t H1 v (del H2 f) := by
  cases t with
  | never =>
    obtain ⟨p, dx, rfl, hp, h2⟩ := h
    exact ⟨p, dx, rfl, hp, by rw [del_ne (ne_of_none hf hp).symm]; exact h2⟩
  | one a =>
    obtain ⟨p, dx, l, rfl, hp, hl, h1, h2⟩ := h
    exact ⟨p, dx, l, rfl, hp, hl, by rw [del_ne (ne_of_none hf hp).symm]; exact h1, by rw [del_ne (ne_of_none hf hl).symm]; exact h2⟩
  | two a b =>
    obtain ⟨p, dx, l, m, rfl, hp, hl, hm, lm, h1, h2, h3⟩ := h
    exact ⟨p, dx, l, m, rfl, hp, hl, hm, lm, by rw [del_ne (ne_of_none hf hp).symm]; exact h1, by rw [del_ne (ne_of_none hf hl).symm]; exact h2, by rw [del_ne (ne_of_none hf hm).symm]; exact h3⟩
section
variable {K : PySem.W.Frag} {σ : L2.St} {H H' : Hp} {ta tb te tl : TE} {tr : TA} {D : Ends} {tu tz : TS} {ds : List PyData}
/-- for x in (data, ..) -/
theorem q_forTD {j : Nat} (h : EvAD K tr σ H ds) (hl : ds.length ≤ 1000) (Pv : Addr → List V → Nat → L2.St → Hp → Prop) (h0 : ∀ T vs H1, H T = none → Ex H H1 → H1 T = some (.tup vs) → DpAll K H1 vs ds → Pv T vs 0 σ H1)
    (hq : ∀ T vs n σ' H', Pv T vs n σ' H' → SqT K H' T vs) (hs : ∀ T vs n x σ' H', vs[n]? = some x → Pv T vs n σ' H' → tu { D with nx := Pv T vs (n + 1), ct := Pv T vs (n + 1), bk := tz D } (σ'.set j (some x)) H') (hd : ∀ T vs σ' H', Pv T vs vs.length σ' H' → tz D σ' H') :
    tSeq (tFor (iTup K (tTup tr)) (gName j) tu) tz D σ H :=
  h H (Ex.refl H) _ fun vs H1 e hv => ⟨sz_of (by rw [dpAll_len hv]; omega), fun T hT => ⟨T, rfl, ⟨vs, st_of upd_same⟩, for_tup (Pv T vs) (h0 T vs _ (fresh_back e hT) (e.trans (Ex.new hT)) upd_same (DpAll.mono (Ex.new hT) hv)) (fun n σ' H' _ p => hq T vs n σ' H' p) (hs T vs) (hd T vs)⟩⟩
theorem ed_repRows {h w : Nat} (hw : Ev ta σ H (.int (w : Int))) (hh : Ev tb σ H (.int (h : Int))) (h1 : h ≤ 90) (w1 : w ≤ 90) :
    EvD K (tOp rRep (tLst (tCons (tOp rRep (tLst (tCons (tUn oNeg (tC (.int 1))) tNil)) ta) tNil)) tb) σ H (dII (List.replicate h (List.replicate w (-1)))) := fun H0 e Q q => by
  have i1 := el_rep (n := w) (xs := [V.int (-1)]) (ta := tLst (tCons (tUn oNeg (tC (.int 1))) tNil)) (el_lst (ea_cons (ev_un ev_c ru_neg) ea_nil) (by simp)) hw (by omega) (by simp)
  refine i1 H0 e _ fun p H1 hp e1 hp1 => ⟨sz_of (by simp), fun r hr => ?_⟩
  refine hh _ (e.trans (e1.trans (Ex.new hr))) _ fun H2 e2 => ⟨r, (h : Int), [.ref p], rfl, rfl, e2 _ _ upd_same, by omega, by omega, sz_of (by rw [Int.toNat_natCast]; simp; omega), fun l hl => ?_⟩
  rw [Int.toNat_natCast]
  have e3 : Ex H1 (upd H2 l (.lst (List.replicate h [V.ref p]).flatten)) := ((Ex.new hr).trans e2).trans (Ex.new hl)
  refine q _ _ (e1.trans e3) (.lst (sq_of upd_same) ?_)
  have dp : Dp K (upd H2 l (.lst (List.replicate h [V.ref p]).flatten)) (.ref p) (dI (List.replicate w (-1))) := by
    refine dp_ints (sq_of ?_)
    rw [e3 _ _ hp1, List.map_replicate, flat_rep]
  generalize upd H2 l (.lst (List.replicate h [V.ref p]).flatten) = H3 at *
  rw [flat_rep, List.map_replicate]
  exact dpAll_rep dp h
theorem q_parPP {i j : Nat} {R S : Hp → V → Hp → Prop} (h : EvP ta σ H R) (h' : EvP tb σ H S) (k : ∀ v u H1 H2, Ex H H1 → R H v H1 → Ex H1 H2 → S H1 u H2 → tz D ((σ.set i (some v)).set j (some u)) H2) : tSeq (tPar i j (tCons ta (tCons tb tNil))) tz D σ H :=
  h H (Ex.refl H) _ fun v H1 e z => h' H1 e _ fun u H2 e2 z2 => ⟨v, u, rfl, k v u H1 H2 e z e2 z2⟩
end
def t_law (K : PySem.W.Frag) (C : Ad) : TS := (tSeq (tAsg (tCB rAbs (tCons (tCB (rSum K) (tCons (tSl (rSlL K) (tVar 0) tNoPart (tPart (tC (.int 63)))) tNil)) tNil)) (gName 1))
      (tSeq (tAsg (tTup (tCons (tOp oAdd (tC (.int 1)) (tOp oMod (tVar 1) (tC (.int 3)))) (tCons (tOp oAdd (tC (.int 1)) (tOp oMod (tOp oDiv (tVar 1) (tC (.int 3))) (tC (.int 3)))) tNil))) (gName 2))
      (tSeq (tAsg (tOp oMul (tOp (rIxT K) (tVar 2) (tC (.int 0))) (tOp (rIxT K) (tVar 2) (tC (.int 1)))) (gName 3))
      (tSeq (tAsg (tCall (sp_rings K C) [] E0 (tCons (tVar 2) tNil)) (gName 4))
      (tSeq (tAsg (tOp (rIxL K) (tVar 4) (tOp oMod (tOp oDiv (tVar 1) (tC (.int 9))) (tCB (rLenS K) (tCons (tVar 4) tNil)))) (gName 5))
      (tSeq (tAsg (tLst (tCons (tVar 4) (tCons (tCall (sp_numbers K C) [] E0 (tCons (tVar 2) (tCons (tVar 5) tNil))) (tCons (tCall (sp_walk K C) [] E0 (tCons (tVar 2) (tCons (tVar 5) tNil))) (tCons (tCall (sp_numbers K C) [] E0 (tCons (tTup (tCons (tC (.int 6)) (tCons (tC (.int 6)) tNil))) (tCons (tLst (tCons (tC (.int 1)) tNil)) tNil))) tNil))))) (gName 6))
      (tSeq (tAsg (tOp rCat (tVar 6) (tLst (tCons (tCall (sp_rings K C) [] E0 (tCons (tTup (tCons (tC (.int 1)) (tCons (tC (.int 2)) tNil))) tNil)) (tCons (tCall (sp_rings K C) [] E0 (tCons (tTup (tCons (tC (.int 2)) (tCons (tC (.int 1)) tNil))) tNil)) (tCons (tCall (sp_walk K C) [] E0 (tCons (tTup (tCons (tC (.int 1)) (tCons (tC (.int 1)) tNil))) (tCons (tLst (tCons (tC (.int 0)) tNil)) tNil))) tNil))))) (gName 6))
      (tSeq (tFor (iTup K (tTup (tCons (tOp rRep (tLst (tCons (tOp rRep (tLst (tCons (tUn oNeg (tC (.int 1))) tNil)) (tOp (rIxT K) (tVar 2) (tC (.int 1)))) tNil)) (tOp (rIxT K) (tVar 2) (tC (.int 0)))) (tCons (tCall (sp_numbers K C) [] E0 (tCons (tVar 2) (tCons (tVar 5) tNil))) (tCons (tLst (tCons (tLst (tCons (tC (.int 3)) (tCons (tC (.int 3)) (tCons (tUn oNeg (tC (.int 1))) tNil)))) tNil)) (tCons (tLst (tCons (tLst (tCons (tUn oNeg (tC (.int 1))) (tCons (tUn oNeg (tC (.int 1))) tNil))) tNil)) tNil)))))) (gName 7) (tSeq (tAsg (tLc (iList K (tVar 7)) (gName 12) tYes (tCB (rListS K) (tCons (tVar 12) tNil)) [12]) (gName 8))
      (tSeq (tAsg (tCall (sp_told K C) [] E0 (tCons (tVar 8) tNil)) (gName 9))
      (tSeq (tDrop (tBM K "list" rAppend (tVar 6) (tCons (tCall (sp_fitting K C) [] E0 (tCons (tVar 8) tNil)) tNil)))
      (tSeq (tIfS (tB (tCB (rIsi K) (tCons (tVar 9) (tCons (tC (.ref C.cOne)) tNil)))) (tDrop (tBM K "list" rAppend (tVar 6) (tCons (tFld K (tVar 9) "cells") tNil))) tNext)
      (tSeq (tIfS (tB (tCB (rIsi K) (tCons (tVar 9) (tCons (tC (.ref C.cTwo)) tNil)))) (tAsg (tOp rCat (tVar 6) (tLst (tCons (tFld K (tVar 9) "one") (tCons (tFld K (tVar 9) "other") tNil)))) (gName 6)) tNext)
      (tIfS (tNot (tB (tCB (rIsi K) (tCons (tAlt (tMeth C.cOne "shows" (sp_One_shows K C) [] E0 (tVar 9) (tCons (tVar 8) tNil)) (tAlt (tMeth C.cTwo "shows" (sp_Two_shows K C) [] E0 (tVar 9) (tCons (tVar 8) tNil)) (tMeth C.cNever "shows" (sp_Never_shows K) [] E0 (tVar 9) (tCons (tVar 8) tNil)))) (tCons (tC (.ty "bool")) tNil))))) (tRet (tC (.bl false))) tNext)))))))
      (tSeq (tPar 10 11 (tCons (tCall (sp_judged K C) [] E0 (tCons (tTup (tCons (tC (.int 1)) (tCons (tC (.int 3)) tNil))) (tCons (tLst (tCons (tC (.int 0)) (tCons (tC (.int 2)) tNil))) tNil))) (tCons (tCall (sp_judged K C) [] E0 (tCons (tTup (tCons (tC (.int 3)) (tCons (tC (.int 3)) tNil))) (tCons (tLst (tCons (tC (.int 0)) (tCons (tC (.int 1)) (tCons (tC (.int 2)) (tCons (tC (.int 3)) (tCons (tC (.int 5)) (tCons (tC (.int 6)) (tCons (tC (.int 7)) (tCons (tC (.int 8)) tNil))))))))) tNil))) tNil)))
      (tRet (tAndV (tCall (sp_l_sound K) [] E0 (tCons (tOp rCat (tVar 6) (tLst (tCons (tFld K (tVar 10) "one") (tCons (tFld K (tVar 10) "other") (tCons (tFld K (tVar 11) "cell") (tCons (tVar 3) tNil)))))) tNil)) (tOp (rEqD K) (tCall (sp_fitting K C) [] E0 (tCons (tLst (tCons (tLst (tCons (tC (.int 3)) (tCons (tC (.int 3)) (tCons (tUn oNeg (tC (.int 1))) tNil)))) tNil)) tNil)) (tLst (tCons (tLst (tCons (tC (.int 0)) (tCons (tC (.int 1)) tNil))) tNil))))))))))))))
def clues9 (h w : Nat) (cs : List Int) : List (List (List Int)) := [List.replicate h (List.replicate w (-1)), numbersOf h w cs, [[3, 3, -1]], [[-1, -1]]]
theorem clues9_ok {h w : Nat} (gk : GOk h w) (hm : h * w ≤ 9) (cs : List Int) : ∀ nss ∈ clues9 h w cs, cluesB nss = true := by
  intro nss hn
  unfold clues9 at hn
  simp only [List.mem_cons, List.not_mem_nil, or_false] at hn
  rcases hn with rfl | rfl | rfl | rfl
  · exact cluesB_free gk hm
  · exact cluesB_numbers gk hm cs
  · decide
  · decide
theorem short_all9 {h w : Nat} (gk : GOk h w) (hm : h * w ≤ 9) (cs : List Int) : shortAll 7 ((clues9 h w cs).map dII) = true := by
  have := clues9_ok gk hm cs
  generalize clues9 h w cs = l at *
  induction l with
  | nil => rfl
  | cons a r ih => rw [List.map_cons, shortAll, short_clues (this a List.mem_cons_self), ih fun b hb => this b (List.mem_cons_of_mem _ hb)]; rfl
theorem told_len {nss : List (List Int)} (ck : CluesR nss) : ∀ ns ∈ fittingOf nss, ns.length ≤ 9 := fun ns hn => by
  obtain ⟨k, _, _, rfl, _⟩ := allRings_mem (List.mem_filter.mp hn).1
  exact Nat.le_trans (cellsOf_len _ _) ck.few
theorem toldM_one {nss : List (List Int)} {a : List Int} (h : toldM nss = .one a) : a ∈ fittingOf nss := by
  unfold toldM at h
  split at h
  · cases h
  · rename_i e
    cases h
    rw [e]
    exact List.mem_cons_self
  · cases h
theorem toldM_two {nss : List (List Int)} {a b : List Int} (h : toldM nss = .two a b) : a ∈ fittingOf nss ∧ b ∈ fittingOf nss := by
  unfold toldM at h
  split at h
  · cases h
  · cases h
  · rename_i e
    cases h
    rw [e]
    exact ⟨List.mem_cons_self, List.mem_cons_of_mem _ List.mem_cons_self⟩
theorem j13 : judgedM 1 3 [0, 2] = .split 0 2 := by decide +kernel
theorem j33 : judgedM 3 3 [0, 1, 2, 3, 5, 6, 7, 8] = .hole 4 := by decide +kernel
theorem rings13 : allRings 1 3 = [[0], [0, 1], [0, 1, 2], [1], [1, 2], [2]] := by
  unfold allRings
  refine sort_eq (l := ringsTo 1 3 (2 ^ (1 * 3) - 1)) ?_ ?_
  · have : ringsTo 1 3 (2 ^ (1 * 3) - 1) = [[0], [1], [0, 1], [2], [1, 2], [0, 1, 2]] := by decide +kernel
    rw [this]
    decide
  · decide
theorem fit13 : fittingOf [[3, 3, -1]] = [[0, 1]] := by
  unfold fittingOf
  have : allRings ([[3, 3, -1]] : List (List Int)).length (([[3, 3, -1]] : List (List Int)).headD []).length = allRings 1 3 := rfl
  rw [this, rings13]
  decide +kernel
def Inv9 (K : PySem.W.Frag) (a g p4 c : Addr) (m sz : Int) (cls : List (List (List Int))) (T : Addr) (vs : List V) (n : Nat) (σ' : L2.St) (H' : Hp) : Prop :=
  ∃ f us ds y7 y8 y9, σ' = [some (.ref a), some (.int m), some (.ref g), some (.int sz), some (.ref p4), some (.ref c), some (.ref f), y7, y8, y9, none, none, none] ∧ H' f = some (.lst us) ∧ 7 ≤ us.length ∧ us.length ≤ 7 + 3 * n ∧ DpAll K (del H' f) us ds ∧ GdA (17000 + 5200 * n) ds ∧ SqT K (del H' f) T vs ∧ DpAll K (del H' f) vs (cls.map dII) ∧ n ≤ vs.length
theorem pure_law {K : PySem.W.Frag} {C : Ad} {vs : List V} {H : Hp} {Q : VK} {E : XK} {D : Ends} (hD : D.rt = Q) {N : List Str} (hN : N.length = 13) (cf_One : Cf K C.cOne ["cells"]) (cf_Two : Cf K C.cTwo ["one", "other"]) (cf_Split : Cf K C.cSplit ["one", "other"]) (cf_Hole : Cf K C.cHole ["cell"])
    (ci_One : Ci K C.cOne) (ci_Two : Ci K C.cTwo) (ci_Never : Ci K C.cNever) (ki_One_One : PySem.W.kitOne K (.ref C.cOne) (.ref C.cOne) = some true) (ki_Two_One : PySem.W.kitOne K (.ref C.cTwo) (.ref C.cOne) = some false) (ki_Never_One : PySem.W.kitOne K (.ref C.cNever) (.ref C.cOne) = some false)
    (ki_One_Two : PySem.W.kitOne K (.ref C.cOne) (.ref C.cTwo) = some false) (ki_Two_Two : PySem.W.kitOne K (.ref C.cTwo) (.ref C.cTwo) = some true) (ki_Never_Two : PySem.W.kitOne K (.ref C.cNever) (.ref C.cTwo) = some false) (h : sp_law K vs H Q E) : t_law K C D (start N vs) H := by
  obtain ⟨a, ns, rfl, hn, sk, q⟩ := h
  subst hD
  rw [start_eq hN]
  change t_law K C D [some (.ref a), none, none, none, none, none, none, none, none, none, none, none, none] H
  refine q_asg (i := 1) (ev_abs (ev_sum63 rfl hn)) fun H1 e1 => ?_
  have m0 : 0 ≤ (if (ns.take 63).sum < 0 then -(ns.take 63).sum else (ns.take 63).sum) := by split <;> omega
  generalize (if (ns.take 63).sum < 0 then -(ns.take 63).sum else (ns.take 63).sum) = m at *
  refine q_asgU (i := 2) (xs := [.int (1 + m % 3), .int (1 + m / 3 % 3)]) (eu_tup (ea_cons (by walk_at "ev") (ea_cons (by walk_at "ev") ea_nil)) (by simp)) fun g H2 hg e2 h2 => ?_
  obtain ⟨h, hh⟩ : ∃ h : Nat, 1 + m % 3 = (h : Int) := ⟨(1 + m % 3).toNat, by omega⟩
  obtain ⟨w, hw⟩ : ∃ w : Nat, 1 + m / 3 % 3 = (w : Int) := ⟨(1 + m / 3 % 3).toNat, by omega⟩
  have hb : 1 ≤ h ∧ h ≤ 3 := by omega
  have wb : 1 ≤ w ∧ w ≤ 3 := by omega
  rw [hh, hw] at h2
  have gk : GOk h w := ⟨hb.1, by omega, wb.1, by omega⟩
  have hm : h * w ≤ 9 := Nat.mul_le_mul hb.2 wb.2
  have hs2 : SqT K H2 g [.int (h : Int), .int (w : Int)] := st_of h2
  refine q_asg (i := 3) (v := .int ((h : Int) * w)) (by walk_at "ev") fun H3 e3 => ?_
  have hs3 := ex_t e3 hs2
  refine q_asgP (i := 4) (ep_rings (K := K) (C := C) (est_of (ev_var rfl) hs3) gk hm) fun v4 H4 e4 hv4 => ?_
  have dv4 : Dp K H4 v4 (dII (allRings h w)) := hv4.dp
  obtain ⟨p4, bs, rfl, hp4, h4, hbs, hb4⟩ := hv4.bs
  have rl := rings_ne hb.1 hb.2 wb.1 wb.2
  have bl : bs.length = (allRings h w).length := by rw [hbs, List.length_map]
  have i0 : 0 ≤ m / 9 % (bs.length : Int) := Int.emod_nonneg _ (by omega)
  have i1 : m / 9 % (bs.length : Int) < (bs.length : Int) := Int.emod_lt_of_pos _ (by omega)
  obtain ⟨i, hi⟩ : ∃ i : Nat, m / 9 % (bs.length : Int) = (i : Int) := ⟨(m / 9 % (bs.length : Int)).toNat, by omega⟩
  have il : i < bs.length := by omega
  have hbi : bs[i]? = some bs[i] := List.getElem?_eq_getElem il
  have bm : bs[i] ∈ bs := List.getElem_mem il
  have mem : bs[i].2 ∈ allRings h w := by rw [hbs]; exact List.mem_map.mpr ⟨_, bm, rfl⟩
  have h5 := (hb4 _ bm).2
  generalize bs[i] = b at *
  obtain ⟨c, cs⟩ := b
  dsimp only at mem h5
  refine q_asg (i := 5) (v := .ref c) (ev_ixS (i := m / 9 % (bs.length : Int)) (es_of (ev_var rfl) (sq_of h4)) (ev_op (x := .int (m / 9)) (y := .int (bs.length : Int)) (by walk_at "ev") (ev_is (ev_lenS (K := K) (es_of (ev_var rfl) (sq_of h4))) (by rw [List.length_map])) (rv_I (by show (0 : Int) < _; omega))) (by rw [hi]; exact atI_nat (by rw [List.getElem?_map, hbi]; rfl))) fun H5 e5 => ?_
  have ck := allRings_ok mem
  obtain ⟨kk, _, _, hcs, isr⟩ := allRings_mem mem
  have cl : cs.length ≤ 9 := by rw [hcs]; exact Nat.le_trans (cellsOf_len _ _) hm
  obtain ⟨pts, hpts⟩ := walk_some hb.1 hb.2 wb.1 wb.2 mem
  have hs5 := ex_t (e4.trans e5) hs3
  have hc5 : SqL K H5 c (cs.map V.int) := sq_of (e5 _ _ h5)
  have g66 : GOk 6 6 := ⟨by decide, by decide, by decide, by decide⟩
  have c66 : COk 6 6 [1] := cok_by (by decide)
  refine q_asgLD (K := K) (i := 6) (ds := [dII (allRings h w), dII (numbersOf h w cs), dPts pts, dII (numbersOf 6 6 [1])]) (ead_cons (ed_of (ev_var rfl) (Dp.mono e5 dv4)) (ead_cons (ed_p (ep_numbersS (K := K) (C := C) (est_of (ev_var rfl) hs5) gk (es_of (ev_var rfl) hc5) ck) fun _ _ _ z => z.dp) (ead_cons (ed_p (ep_walk (K := K) (C := C) (est_of (ev_var rfl) hs5) gk (es_of (ev_var rfl) hc5) ck isr hpts) fun _ _ _ z => z.dp)
    (ead_cons (ed_p (ep_numbersS (K := K) (C := C) (h := 6) (w := 6) (cs := [1]) (est_new (eu_tup (ea_cons ev_c (ea_cons ev_c ea_nil)) (by simp))) g66 (es_new (el_lst (ea_cons ev_c ea_nil) (by simp))) c66) fun _ _ _ z => z.dp) ead_nil)))) (by simp) fun f6 us6 H6 hf6 e6 h6 hd6 => ?_
  have w11 : walkOf 1 1 [0] = some [(0, 0), (0, 1), (1, 1), (1, 0)] := by decide +kernel
  have g11 : GOk 1 1 := ⟨by decide, by decide, by decide, by decide⟩
  refine q_catLD (K := K) (i := 6) (es := [dII (allRings 1 2), dII (allRings 2 1), dPts [(0, 0), (0, 1), (1, 1), (1, 0)]]) h6 hd6 (ev_var rfl) (ead_cons (ed_p (ep_rings (K := K) (C := C) (h := 1) (w := 2) (est_new (eu_tup (ea_cons ev_c (ea_cons ev_c ea_nil)) (by simp))) ⟨by decide, by decide, by decide, by decide⟩ (by decide)) fun _ _ _ z => z.dp) (ead_cons (ed_p (ep_rings (K := K) (C := C) (h := 2) (w := 1) (est_new (eu_tup (ea_cons ev_c (ea_cons ev_c ea_nil)) (by simp))) ⟨by decide, by decide, by decide, by decide⟩ (by decide)) fun _ _ _ z => z.dp)
    (ead_cons (ed_p (ep_walk (K := K) (C := C) (h := 1) (w := 1) (cs := [0]) (est_new (eu_tup (ea_cons ev_c (ea_cons ev_c ea_nil)) (by simp))) g11 (es_new (el_lst (ea_cons ev_c ea_nil) (by simp))) (cok_by (by decide)) (by decide +kernel) w11) fun _ _ _ z => z.dp) ead_nil))) (by simp) fun f7 us7 H7 hf7 e7 h7 hd7 => ?_
  have gd7 : GdA 17000 ([dII (allRings h w), dII (numbersOf h w cs), dPts pts, dII (numbersOf 6 6 [1])] ++ [dII (allRings 1 2), dII (allRings 2 1), dPts [(0, 0), (0, 1), (1, 1), (1, 0)]]) :=
    ((GdA.cons (gd_rings hm) (.cons (gd_numbers gk cs) (.cons (gd_pts (walkOf_len hpts)) (.cons (gd_numbers g66 [1]) .nil)))).append (.cons (gd_rings (by decide)) (.cons (gd_rings (by decide)) (.cons (gd_pts (M := 4) (by simp)) .nil)))).le (by decide)
  have l7 : us7.length = 7 := by rw [dpAll_len hd7]; rfl
  generalize ([dII (allRings h w), dII (numbersOf h w cs), dPts pts, dII (numbersOf 6 6 [1])] ++ [dII (allRings 1 2), dII (allRings 2 1), dPts [(0, 0), (0, 1), (1, 1), (1, 0)]]) = ds7 at *
  have hs7 := ex_t (e6.trans e7) hs5
  have hc7 := ex_l (e6.trans e7) hc5
  have ok9 := clues9_ok gk hm cs
  refine q_forTD (K := K) (j := 7) (ds := (clues9 h w cs).map dII) (ead_cons (ed_repRows (by walk_at "ev") (by walk_at "ev") (by omega) (by omega)) (ead_cons (ed_p (ep_numbersS (K := K) (C := C) (est_of (ev_var rfl) hs7) gk (es_of (ev_var rfl) hc7) ck) fun _ _ _ z => z.dp) (ead_cons (ed_lst (ead_cons (ed_ints (ns := [3, 3, -1]) (es_new (el_lst (ea_cons ev_c (ea_cons ev_c (ea_cons (ev_un ev_c ru_neg) ea_nil))) (by simp)))) ead_nil) (by simp)) (ead_cons (ed_lst (ead_cons (ed_ints (ns := [-1, -1]) (es_new (el_lst (ea_cons (ev_un ev_c ru_neg) (ea_cons (ev_un ev_c ru_neg) ea_nil)) (by simp)))) ead_nil) (by simp)) ead_nil)))) (by simp [clues9])
    (Inv9 K a g p4 c m ((h : Int) * w) (clues9 h w cs))
    (fun T vs H8 hT e8 h8 hv => ?_) (fun T vs n σ' H' hP => ?_) (fun T vs n x σ' H8 hx hP => ?_) (fun T vs σ' H8 hP => ?_)
  · have h8f := e8 _ _ h7
    have neT : T ≠ f7 := fun z => by rw [z, h8f] at h8; cases h8
    refine ⟨f7, us7, ds7, none, none, none, rfl, h8f, by omega, by omega, DpAll.mono (del_mono f7 e8) hd7, gd7, st_of (by rw [del_ne neT]; exact h8), dpAll_del h8f (n := 7) (by omega) hv (short_all9 gk hm cs), Nat.zero_le _⟩
  · obtain ⟨f, us, ds, y7, y8, y9, rfl, z1, z2, z3, z4, z5, z6, z7, z8⟩ := hP
    exact ex_t (del_ex _ _) z6
  · obtain ⟨f, us, ds, y7, y8, y9, rfl, hf, ul, uh, hd, gd, hT, hv, hnl⟩ := hP
    have n4 : n < 4 := by
      have := (List.getElem?_eq_some_iff.mp hx).1
      rw [dpAll_len hv] at this
      exact this
    obtain ⟨dx, hdx, dpx⟩ := dpAll_get hv hx
    rw [List.getElem?_map] at hdx
    obtain ⟨nss, hnss, rfl⟩ := Option.map_eq_some_iff.mp hdx
    have cb := ok9 nss (List.mem_of_getElem? hnss)
    have cR := cluesB_R cb
    obtain ⟨xa, rfl, hxr⟩ := rows_of_dp dpx
    have nl := cR.g.2.1
    refine q_asgP (i := 8) (ep_copyRows (K := K) (ev_var rfl) (hxr.mono (del_ex _ _)) (by omega) (fun _ => rfl) (fun _ => rfl)) fun v9 H9 e9 hv9 => ?_
    obtain ⟨rp, rfl, hrp, hrr⟩ := (hv9.avoid hf).rows (K := K)
    have hf9 := e9 _ _ hf
    refine q_asgP (i := 9) (ep_told (K := K) (C := C) (ea_cons (ev_var rfl) ea_nil) (hrr.mono (del_ex _ _)) cb) fun v10 H10 e10 hv10 => ?_
    have hta : TldAt K C (del H10 f) v10 (toldM nss) := (hv10.avoid hf9).at
    have hf10 := e10 _ _ hf9
    have hrr10 := hrr.mono (del_mono f e10)
    refine q_appP (K := K) (l := f) hf10 (ev_var rfl) (ep_fitting (K := K) (C := C) (ea_cons (ev_var rfl) ea_nil) (hrr10.mono (del_ex _ _)) cb) (fun e z => z.back e) (by omega) fun v11 H11 e11 hv11 => ?_
    have d11 : Dp K (del H11 f) v11 (dII (fittingOf nss)) := (hv11.avoid hf10).dp
    have all11 : DpAll K (del (upd H11 f (.lst (us ++ [v11]))) f) (us ++ [v11]) (ds ++ [dII (fittingOf nss)]) := by
      rw [del_upd]
      exact dpAll_append (DpAll.mono (del_mono f ((e9.trans e10).trans e11)) hd) (.cons d11 .nil)
    have gd11 : GdA (17000 + 5200 * n + 5121) (ds ++ [dII (fittingOf nss)]) := (gd.append (.cons (gd_fit cR) .nil)).le (by omega)
    have hta11 : TldAt K C (del (upd H11 f (.lst (us ++ [v11]))) f) v10 (toldM nss) := by rw [del_upd]; exact hta.mono (del_mono f e11)
    have hrr11 : RowsAt K (del (upd H11 f (.lst (us ++ [v11]))) f) rp nss := by rw [del_upd]; exact hrr10.mono (del_mono f e11)
    have hT11 : SqT K (del (upd H11 f (.lst (us ++ [v11]))) f) T vs := by rw [del_upd]; exact ex_t (del_mono f ((e9.trans e10).trans e11)) hT
    have hv11' : DpAll K (del (upd H11 f (.lst (us ++ [v11]))) f) vs ((clues9 h w cs).map dII) := by rw [del_upd]; exact DpAll.mono (del_mono f ((e9.trans e10).trans e11)) hv
    have hf11 : (upd H11 f (.lst (us ++ [v11]))) f = some (.lst (us ++ [v11])) := upd_same
    have ul11 : 7 ≤ (us ++ [v11]).length ∧ (us ++ [v11]).length ≤ 8 + 3 * n := by rw [List.length_append]; simp; omega
    generalize upd H11 f (.lst (us ++ [v11])) = Hn at *
    generalize us ++ [v11] = us' at *
    generalize ds ++ [dII (fittingOf nss)] = ds' at *
    have nv : n < vs.length := (List.getElem?_eq_some_iff.mp hx).1
    have fin : ∀ (f2 : Addr) (us2 : List V) (ds2 : List PyData) (Hm : Hp) (D' : Ends), D'.nx = Inv9 K a g p4 c m ((h : Int) * w) (clues9 h w cs) T vs (n + 1) → Hm f2 = some (.lst us2) → 7 ≤ us2.length → us2.length ≤ 10 + 3 * n → DpAll K (del Hm f2) us2 ds2 → GdA (17000 + 5200 * (n + 1)) ds2 → TldAt K C (del Hm f2) v10 (toldM nss) → RowsAt K (del Hm f2) rp nss → SqT K (del Hm f2) T vs → DpAll K (del Hm f2) vs ((clues9 h w cs).map dII) →
        tIfS (tNot (tB (tCB (rIsi K) (tCons (tAlt (tMeth C.cOne "shows" (sp_One_shows K C) [] E0 (tVar 9) (tCons (tVar 8) tNil)) (tAlt (tMeth C.cTwo "shows" (sp_Two_shows K C) [] E0 (tVar 9) (tCons (tVar 8) tNil)) (tMeth C.cNever "shows" (sp_Never_shows K) [] E0 (tVar 9) (tCons (tVar 8) tNil)))) (tCons (tC (.ty "bool")) tNil))))) (tRet (tC (.bl false))) tNext D'
          [some (.ref a), some (.int m), some (.ref g), some (.int ((h : Int) * w)), some (.ref p4), some (.ref c), some (.ref f2), some (.ref xa), some (.ref rp), some v10, none, none, none] Hm := by
      intro f2 us2 ds2 Hm D' hD' z1 z2 z3 z4 z5 z6 z7 z8 z9
      have sh := ev_showsC (K := K) (C := C) (σ := [some (.ref a), some (.int m), some (.ref g), some (.int ((h : Int) * w)), some (.ref p4), some (.ref c), some (.ref f2), some (.ref xa), some (.ref rp), some v10, none, none, none]) (H := Hm) (ta := tVar 9) (tb := tVar 8) (ev_var rfl) (z6.mono (del_ex _ _)) (ev_var rfl) (z7.mono (del_ex _ _)) cR
      refine s_when (b := false) (et_is (et_not (et_B (ev_isiBool (n := "bool") sh ⟨.base (.bl _), by decide⟩))) rfl) (fun z => nomatch z) (fun _ Hq eq => ?_)
      rw [hD']
      exact ⟨f2, us2, ds2, _, _, _, rfl, eq _ _ z1, z2, by omega, DpAll.mono (del_mono f2 eq) z4, z5, ex_t (del_mono f2 eq) z8, DpAll.mono (del_mono f2 eq) z9, by omega⟩
    have lens := told_len cR
    cases ht : toldM nss with
    | never =>
      rw [ht] at hta11
      obtain ⟨p, dx, rfl, hp⟩ := hta11
      have hp' := del_ex _ _ _ _ hp
      refine q_when (et_B (ev_isiC (ev_var rfl) hp' ci_Never ki_Never_One)) (fun z => nomatch z) (fun _ Hq eq => ?_)
      refine q_when (et_B (ev_isiC (ev_var rfl) (eq _ _ hp') ci_Never ki_Never_Two)) (fun z => nomatch z) (fun _ Hr er => ?_)
      have eqr := eq.trans er
      refine fin f us' ds' Hr _ rfl (eqr _ _ hf11) ul11.1 (by omega) (DpAll.mono (del_mono f eqr) all11) (gd11.le (by omega)) ?_ (hrr11.mono (del_mono f eqr)) (ex_t (del_mono f eqr) hT11) (DpAll.mono (del_mono f eqr) hv11')
      rw [ht]
      exact ⟨p, dx, rfl, del_mono f eqr _ _ hp⟩
    | one ms =>
      have ml := lens ms (toldM_one ht)
      rw [ht] at hta11
      have hta11' := hta11
      obtain ⟨p, dx, l, rfl, hp, hl⟩ := hta11
      have hp' := del_ex _ _ _ _ hp
      refine q_when (et_B (ev_isiC (ev_var rfl) hp' ci_One ki_One_One)) (fun _ Hq eq => ?_) (fun z => nomatch z)
      refine s_app (K := K) (l := f) (v := .ref l) (eq _ _ hf11) (ev_var rfl) (ev_fld (ev_var rfl) (eq _ _ hp') cf_One (by simp) fldsC_cells) (by omega) fun Hr er => ?_
      have eqr := del_mono f (eq.trans er)
      have hp2 : (del (upd Hr f (.lst (us' ++ [.ref l]))) f) p = some (.ins C.cOne dx (fldsC (.ref l))) := by rw [del_upd]; exact eqr _ _ hp
      have hf2 : (upd Hr f (.lst (us' ++ [.ref l]))) f = some (.lst (us' ++ [.ref l])) := upd_same
      have al2 : DpAll K (del (upd Hr f (.lst (us' ++ [.ref l]))) f) (us' ++ [.ref l]) (ds' ++ [dI ms]) := by rw [del_upd]; exact dpAll_append (DpAll.mono eqr all11) (.cons (dp_ints (ex_l eqr hl)) .nil)
      have ta2 : TldAt K C (del (upd Hr f (.lst (us' ++ [.ref l]))) f) (.ref p) (.one ms) := by rw [del_upd]; exact hta11'.mono eqr
      have rr2 : RowsAt K (del (upd Hr f (.lst (us' ++ [.ref l]))) f) rp nss := by rw [del_upd]; exact hrr11.mono eqr
      have tt2 : SqT K (del (upd Hr f (.lst (us' ++ [.ref l]))) f) T vs := by rw [del_upd]; exact ex_t eqr hT11
      have vv2 : DpAll K (del (upd Hr f (.lst (us' ++ [.ref l]))) f) vs ((clues9 h w cs).map dII) := by rw [del_upd]; exact DpAll.mono eqr hv11'
      generalize upd Hr f (.lst (us' ++ [.ref l])) = Hs at *
      refine q_when (et_B (ev_isiC (ev_var rfl) (del_ex _ _ _ _ hp2) ci_One ki_One_Two)) (fun z => nomatch z) (fun _ Ht et => ?_)
      refine fin f _ _ Ht _ rfl (et _ _ hf2) (by rw [List.length_append]; omega) (by rw [List.length_append]; simp; omega) (DpAll.mono (del_mono f et) al2) ((gd11.append (.cons (gd_dI ml) .nil)).le (by omega)) ?_ (rr2.mono (del_mono f et)) (ex_t (del_mono f et) tt2) (DpAll.mono (del_mono f et) vv2)
      rw [ht]
      exact ta2.mono (del_mono f et)
    | two ms ks =>
      obtain ⟨m1, m2⟩ := toldM_two ht
      have ml := lens ms m1
      have kl := lens ks m2
      rw [ht] at hta11
      have hta11' := hta11
      obtain ⟨p, dx, l, l2, rfl, hp, hl, hl2⟩ := hta11
      have hp' := del_ex _ _ _ _ hp
      refine q_when (et_B (ev_isiC (ev_var rfl) hp' ci_Two ki_Two_One)) (fun z => nomatch z) (fun _ Hq eq => ?_)
      have hpq := eq _ _ hp'
      have dl := dpAll_len all11
      refine q_when (et_B (ev_isiC (ev_var rfl) hpq ci_Two ki_Two_Two)) (fun _ Hr er => ?_) (fun z => nomatch z)
      have eqr := eq.trans er
      refine s_catLD (K := K) (i := 6) (f := f) (es := [dI ms, dI ks]) (eqr _ _ hf11) (DpAll.mono (del_mono f eqr) all11) (ev_var rfl) (ead_cons (ed_of (ev_fld (ev_var rfl) (er _ _ hpq) cf_Two (by simp) flds2_one) (dp_ints (ex_l ((del_ex _ _).trans eqr) hl))) (ead_cons (ed_of (ev_fld (ev_var rfl) (er _ _ hpq) cf_Two (by simp) flds2_other) (dp_ints (ex_l ((del_ex _ _).trans eqr) hl2))) ead_nil)) (by simp; omega) fun f3 us3 Hs hf3 es hs3 al3 => ?_
      have e3 : Ex (del Hn f) (del Hs f3) := ((del_ex Hn f).trans eqr).trans (ex_del hf3 es)
      have ul3 := dpAll_len al3
      rw [List.length_append] at ul3
      refine fin f3 us3 _ Hs _ rfl hs3 (by simp at ul3; omega) (by simp at ul3; omega) al3 ((gd11.append (.cons (gd_dI ml) (.cons (gd_dI kl) .nil))).le (by omega)) ?_ (hrr11.mono e3) (ex_t e3 hT11) (DpAll.mono e3 hv11')
      rw [ht]
      exact hta11'.mono e3
  · obtain ⟨f, us, ds, y7, y8, y9, rfl, hf, ul, uh, hd, gd, hT, hv, hnl⟩ := hP
    have vl : vs.length = 4 := by rw [dpAll_len hv]; rfl
    rw [vl] at uh gd
    refine q_parPP (i := 10) (j := 11) (ep_judged (K := K) (C := C) (h := 1) (w := 3) (cs := [0, 2]) (est_new (eu_tup (ea_cons ev_c (ea_cons ev_c ea_nil)) (by simp))) ⟨by decide, by decide, by decide, by decide⟩ (es_new (el_lst (ea_cons ev_c (ea_cons ev_c ea_nil)) (by simp))) (cok_by (by decide)))
      (ep_judged (K := K) (C := C) (h := 3) (w := 3) (cs := [0, 1, 2, 3, 5, 6, 7, 8]) (est_new (eu_tup (ea_cons ev_c (ea_cons ev_c ea_nil)) (by simp))) ⟨by decide, by decide, by decide, by decide⟩ (es_new (el_lst (ea_cons ev_c (ea_cons ev_c (ea_cons ev_c (ea_cons ev_c (ea_cons ev_c (ea_cons ev_c (ea_cons ev_c (ea_cons ev_c ea_nil)))))))) (by simp))) (cok_by (by decide))) fun va vb Ha Hb ea za eb zb => ?_
    rw [j13] at za
    rw [j33] at zb
    obtain ⟨pa, da, rfl, ha⟩ := (za.on eb).at
    obtain ⟨pb, db, rfl, hbh⟩ := zb.at
    have eab := ea.trans eb
    have dl := dpAll_len hd
    refine s_ret (v := .bl true) (ev_is (ev_andV (a := true) (b := true) (ev_l_sound (K := K) (ed_cat (es := [.int 0, .int 2, .int 4, .int ((h : Int) * w)]) (eab _ _ hf) (DpAll.mono (del_mono f eab) hd) (ev_var rfl) (ead_cons (ed_int (ev_fld (ev_var rfl) ha cf_Split (by simp) flds2_one)) (ead_cons (ed_int (ev_fld (ev_var rfl) ha cf_Split (by simp) flds2_other)) (ead_cons (ed_int (ev_fld (ev_var rfl) hbh cf_Hole (by simp) flds1_cell)) (ead_cons (ed_int (ev_var rfl)) ead_nil)))) (by simp; omega)) ?_ ?_ ?_) (fun _ => ?_)) rfl) fun Hz ez => q Hz
    · rw [sndD]
      exact (gd.append (.cons (gd_int 0) (.cons (gd_int 2) (.cons (gd_int 4) (.cons (gd_int _) .nil))))).1
    · rw [PyData.depth]
      have := (gd.append (.cons (gd_int 0) (.cons (gd_int 2) (.cons (gd_int 4) (.cons (gd_int ((h : Int) * w)) .nil))))).2.2
      omega
    · rw [szD]
      have := (gd.append (.cons (gd_int 0) (.cons (gd_int 2) (.cons (gd_int 4) (.cons (gd_int ((h : Int) * w)) .nil))))).2.1
      omega
    · refine ev_is (ev_eqD (d := dII (fittingOf [[3, 3, -1]])) (d' := dII [[0, 1]]) ?_ (ed_lst (ead_cons (ed_ints (ns := [0, 1]) (es_new (el_lst (ea_cons ev_c (ea_cons ev_c ea_nil)) (by simp)))) ead_nil) (by simp)) (shaped_rows _) (shaped_rows _)) (by rw [eqv_dII, fit13]; decide)
      exact ed_p (ep_fittingD (K := K) (C := C) (nss := [[3, 3, -1]]) (ed_lst (ead_cons (ed_ints (ns := [3, 3, -1]) (es_new (el_lst (ea_cons ev_c (ea_cons ev_c (ea_cons (ev_un ev_c ru_neg) ea_nil))) (by simp)))) ead_nil) (by simp)) (by decide)) fun _ _ _ z => z.dp

/-! ### the text -/
def topS (i : Nat) : Stmt := PySem.Challenge.pw_sidering_k09_sorts_told.main.body.getD i (.Pass ⟨0, 0, 0, 0⟩)
abbrev s_is_whole : Stmt := topS 8
theorem sc_is_whole : FnScope ["thing"] ["thing"] (defScope s_is_whole) := ⟨rfl, rfl, rfl, by decide +kernel, rfl, by decide +kernel, by decide +kernel⟩
abbrev s_check_grid : Stmt := topS 9
theorem sc_check_grid : FnScope ["grid", "one"] ["grid"] (defScope s_check_grid) := ⟨rfl, rfl, rfl, by decide +kernel, rfl, by decide +kernel, by decide +kernel⟩
abbrev s_check_few : Stmt := topS 35
theorem sc_check_few : FnScope ["grid"] ["grid"] (defScope s_check_few) := ⟨rfl, rfl, rfl, by decide +kernel, rfl, by decide +kernel, by decide +kernel⟩
abbrev s_beside : Stmt := topS 11
theorem sc_beside : FnScope ["grid", "cell", "high", "wide", "found"] ["grid", "cell"] (defScope s_beside) := ⟨rfl, rfl, rfl, by decide +kernel, rfl, by decide +kernel, by decide +kernel⟩
abbrev s_spread : Stmt := topS 17
theorem sc_spread : FnScope ["grid", "first", "some", "found", "at", "one"] ["grid", "first", "some"] (defScope s_spread) := ⟨rfl, rfl, rfl, by decide +kernel, rfl, by decide +kernel, by decide +kernel⟩
abbrev s_is_inner : Stmt := topS 18
theorem sc_is_inner : FnScope ["grid", "cells", "cell", "high", "wide", "rest", "one"] ["grid", "cells", "cell"] (defScope s_is_inner) := ⟨rfl, rfl, rfl, by decide +kernel, rfl, by decide +kernel, by decide +kernel⟩
abbrev s_first_inner : Stmt := topS 19
theorem sc_first_inner : FnScope ["grid", "cells", "cell"] ["grid", "cells"] (defScope s_first_inner) := ⟨rfl, rfl, rfl, by decide +kernel, rfl, by decide +kernel, by decide +kernel⟩
abbrev s_is_ring : Stmt := topS 20
theorem sc_is_ring : FnScope ["grid", "cells"] ["grid", "cells"] (defScope s_is_ring) := ⟨rfl, rfl, rfl, by decide +kernel, rfl, by decide +kernel, by decide +kernel⟩
abbrev s_all_rings : Stmt := topS 24
theorem sc_all_rings : FnScope ["grid", "many", "found", "number", "cells", "cell"] ["grid"] (defScope s_all_rings) := ⟨rfl, rfl, rfl, by decide +kernel, rfl, by decide +kernel, by decide +kernel⟩
abbrev s_rings : Stmt := topS 36
theorem sc_rings : FnScope ["grid"] ["grid"] (defScope s_rings) := ⟨rfl, rfl, rfl, by decide +kernel, rfl, by decide +kernel, by decide +kernel⟩
abbrev s_check_cells : Stmt := topS 10
theorem sc_check_cells : FnScope ["grid", "cells", "many", "one", "other"] ["grid", "cells"] (defScope s_check_cells) := ⟨rfl, rfl, rfl, by decide +kernel, rfl, by decide +kernel, by decide +kernel⟩
abbrev s_sides_of : Stmt := topS 12
theorem sc_sides_of : FnScope ["grid", "cells", "cell", "near", "one"] ["grid", "cells", "cell"] (defScope s_sides_of) := ⟨rfl, rfl, rfl, by decide +kernel, rfl, by decide +kernel, by decide +kernel⟩
abbrev s_numbers_of : Stmt := topS 13
theorem sc_numbers_of : FnScope ["grid", "cells", "high", "wide", "row", "at"] ["grid", "cells"] (defScope s_numbers_of) := ⟨rfl, rfl, rfl, by decide +kernel, rfl, by decide +kernel, by decide +kernel⟩
abbrev s_numbers : Stmt := topS 14
theorem sc_numbers : FnScope ["grid", "cells"] ["grid", "cells"] (defScope s_numbers) := ⟨rfl, rfl, rfl, by decide +kernel, rfl, by decide +kernel, by decide +kernel⟩
abbrev s_side_ahead : Stmt := topS 33
theorem sc_side_ahead : FnScope ["grid", "cells", "point", "turn", "high", "wide", "row", "at", "pairs", "found", "here", "there"] ["grid", "cells", "point", "turn"] (defScope s_side_ahead) := ⟨rfl, rfl, rfl, by decide +kernel, rfl, by decide +kernel, by decide +kernel⟩
abbrev s_walk : Stmt := topS 34
theorem sc_walk : FnScope ["grid", "cells", "first", "steps", "found", "turn", "here", "back", "way"] ["grid", "cells"] (defScope s_walk) := ⟨rfl, rfl, rfl, by decide +kernel, rfl, by decide +kernel, by decide +kernel⟩
abbrev s_check_clues : Stmt := topS 37
theorem sc_check_clues : FnScope ["clues", "wide", "row", "clue"] ["clues"] (defScope s_check_clues) := ⟨rfl, rfl, rfl, by decide +kernel, rfl, by decide +kernel, by decide +kernel⟩
abbrev s_fits : Stmt := topS 25
theorem sc_fits : FnScope ["clues", "cells", "told", "row", "line", "clue", "number"] ["clues", "cells"] (defScope s_fits) := ⟨rfl, rfl, rfl, by decide +kernel, rfl, by decide +kernel, by decide +kernel⟩
abbrev s_fitting_of : Stmt := topS 26
theorem sc_fitting_of : FnScope ["clues", "cells"] ["clues"] (defScope s_fitting_of) := ⟨rfl, rfl, rfl, by decide +kernel, rfl, by decide +kernel, by decide +kernel⟩
abbrev s_One_init : Stmt := inClass (topS 27) 0
theorem sc_One_init : FnScope ["self", "cells"] ["self", "cells"] (defScope s_One_init) := ⟨rfl, rfl, rfl, by decide +kernel, rfl, by decide +kernel, by decide +kernel⟩
abbrev s_Two_init : Stmt := inClass (topS 28) 0
theorem sc_Two_init : FnScope ["self", "one", "other"] ["self", "one", "other"] (defScope s_Two_init) := ⟨rfl, rfl, rfl, by decide +kernel, rfl, by decide +kernel, by decide +kernel⟩
abbrev s_told : Stmt := topS 39
theorem sc_told : FnScope ["clues", "found"] ["clues"] (defScope s_told) := ⟨rfl, rfl, rfl, by decide +kernel, rfl, by decide +kernel, by decide +kernel⟩
abbrev s_fitting : Stmt := topS 38
theorem sc_fitting : FnScope ["clues"] ["clues"] (defScope s_fitting) := ⟨rfl, rfl, rfl, by decide +kernel, rfl, by decide +kernel, by decide +kernel⟩
abbrev s_Split_init : Stmt := inClass (topS 22) 0
theorem sc_Split_init : FnScope ["self", "one", "other"] ["self", "one", "other"] (defScope s_Split_init) := ⟨rfl, rfl, rfl, by decide +kernel, rfl, by decide +kernel, by decide +kernel⟩
abbrev s_Hole_init : Stmt := inClass (topS 23) 0
theorem sc_Hole_init : FnScope ["self", "cell"] ["self", "cell"] (defScope s_Hole_init) := ⟨rfl, rfl, rfl, by decide +kernel, rfl, by decide +kernel, by decide +kernel⟩
abbrev s_judged : Stmt := topS 32
theorem sc_judged : FnScope ["grid", "cells", "near", "inner", "cell"] ["grid", "cells"] (defScope s_judged) := ⟨rfl, rfl, rfl, by decide +kernel, rfl, by decide +kernel, by decide +kernel⟩
abbrev s_l_sound : Stmt := topS 41
theorem sc_l_sound : FnScope ["_law_thing", "_law_waiting", "_law_one"] ["_law_thing"] (defScope s_l_sound) := ⟨rfl, rfl, rfl, by decide +kernel, rfl, by decide +kernel, by decide +kernel⟩
abbrev s_One_shows : Stmt := inClass (topS 27) 1
theorem sc_One_shows : FnScope ["self", "clues"] ["self", "clues"] (defScope s_One_shows) := ⟨rfl, rfl, rfl, by decide +kernel, rfl, by decide +kernel, by decide +kernel⟩
abbrev s_Two_shows : Stmt := inClass (topS 28) 1
theorem sc_Two_shows : FnScope ["self", "clues", "found"] ["self", "clues"] (defScope s_Two_shows) := ⟨rfl, rfl, rfl, by decide +kernel, rfl, by decide +kernel, by decide +kernel⟩
abbrev s_Never_shows : Stmt := inClass (topS 29) 0
theorem sc_Never_shows : FnScope ["self", "clues"] ["self", "clues"] (defScope s_Never_shows) := ⟨rfl, rfl, rfl, by decide +kernel, rfl, by decide +kernel, by decide +kernel⟩
abbrev s_law : Stmt := topS 42
theorem sc_law : FnScope ["_law_script", "_law_more", "_law_grid", "_law_size", "_law_every", "_law_some", "_law_found", "_law_clues", "_law_rows", "_law_answer", "_law_split", "_law_hole", "_law_row"] ["_law_script"] (defScope s_law) := ⟨rfl, rfl, rfl, by decide +kernel, rfl, by decide +kernel, by decide +kernel⟩
structure Tx (K : PySem.W.Frag) (mg : Str → Option Value) where
  C : Ad
  f_is_whole : Addr
  fd_is_whole : FuncData
  F_is_whole : Fun K "is_whole" "is_whole" s_is_whole f_is_whole fd_is_whole
  g_is_whole : mg "is_whole" = some (.ref f_is_whole)
  b_is_whole : Binds K fd_is_whole ["thing"] []
  f_check_grid : Addr
  fd_check_grid : FuncData
  F_check_grid : Fun K "check_grid" "check_grid" s_check_grid f_check_grid fd_check_grid
  g_check_grid : mg "check_grid" = some (.ref f_check_grid)
  b_check_grid : Binds K fd_check_grid ["grid"] []
  f_check_few : Addr
  fd_check_few : FuncData
  F_check_few : Fun K "check_few" "check_few" s_check_few f_check_few fd_check_few
  g_check_few : mg "check_few" = some (.ref f_check_few)
  b_check_few : Binds K fd_check_few ["grid"] []
  f_beside : Addr
  fd_beside : FuncData
  F_beside : Fun K "beside" "beside" s_beside f_beside fd_beside
  g_beside : mg "beside" = some (.ref f_beside)
  b_beside : Binds K fd_beside ["grid", "cell"] []
  f_spread : Addr
  fd_spread : FuncData
  F_spread : Fun K "spread" "spread" s_spread f_spread fd_spread
  g_spread : mg "spread" = some (.ref f_spread)
  b_spread : Binds K fd_spread ["grid", "first", "some"] []
  f_is_inner : Addr
  fd_is_inner : FuncData
  F_is_inner : Fun K "is_inner" "is_inner" s_is_inner f_is_inner fd_is_inner
  g_is_inner : mg "is_inner" = some (.ref f_is_inner)
  b_is_inner : Binds K fd_is_inner ["grid", "cells", "cell"] []
  f_first_inner : Addr
  fd_first_inner : FuncData
  F_first_inner : Fun K "first_inner" "first_inner" s_first_inner f_first_inner fd_first_inner
  g_first_inner : mg "first_inner" = some (.ref f_first_inner)
  b_first_inner : Binds K fd_first_inner ["grid", "cells"] []
  f_is_ring : Addr
  fd_is_ring : FuncData
  F_is_ring : Fun K "is_ring" "is_ring" s_is_ring f_is_ring fd_is_ring
  g_is_ring : mg "is_ring" = some (.ref f_is_ring)
  b_is_ring : Binds K fd_is_ring ["grid", "cells"] []
  f_all_rings : Addr
  fd_all_rings : FuncData
  F_all_rings : Fun K "all_rings" "all_rings" s_all_rings f_all_rings fd_all_rings
  g_all_rings : mg "all_rings" = some (.ref f_all_rings)
  b_all_rings : Binds K fd_all_rings ["grid"] []
  f_rings : Addr
  fd_rings : FuncData
  F_rings : Fun K "rings" "rings" s_rings f_rings fd_rings
  g_rings : mg "rings" = some (.ref f_rings)
  b_rings : Binds K fd_rings ["grid"] []
  f_check_cells : Addr
  fd_check_cells : FuncData
  F_check_cells : Fun K "check_cells" "check_cells" s_check_cells f_check_cells fd_check_cells
  g_check_cells : mg "check_cells" = some (.ref f_check_cells)
  b_check_cells : Binds K fd_check_cells ["grid", "cells"] []
  f_sides_of : Addr
  fd_sides_of : FuncData
  F_sides_of : Fun K "sides_of" "sides_of" s_sides_of f_sides_of fd_sides_of
  g_sides_of : mg "sides_of" = some (.ref f_sides_of)
  b_sides_of : Binds K fd_sides_of ["grid", "cells", "cell"] []
  f_numbers_of : Addr
  fd_numbers_of : FuncData
  F_numbers_of : Fun K "numbers_of" "numbers_of" s_numbers_of f_numbers_of fd_numbers_of
  g_numbers_of : mg "numbers_of" = some (.ref f_numbers_of)
  b_numbers_of : Binds K fd_numbers_of ["grid", "cells"] []
  f_numbers : Addr
  fd_numbers : FuncData
  F_numbers : Fun K "numbers" "numbers" s_numbers f_numbers fd_numbers
  g_numbers : mg "numbers" = some (.ref f_numbers)
  b_numbers : Binds K fd_numbers ["grid", "cells"] []
  f_side_ahead : Addr
  fd_side_ahead : FuncData
  F_side_ahead : Fun K "side_ahead" "side_ahead" s_side_ahead f_side_ahead fd_side_ahead
  g_side_ahead : mg "side_ahead" = some (.ref f_side_ahead)
  b_side_ahead : Binds K fd_side_ahead ["grid", "cells", "point", "turn"] []
  f_walk : Addr
  fd_walk : FuncData
  F_walk : Fun K "walk" "walk" s_walk f_walk fd_walk
  g_walk : mg "walk" = some (.ref f_walk)
  b_walk : Binds K fd_walk ["grid", "cells"] []
  f_check_clues : Addr
  fd_check_clues : FuncData
  F_check_clues : Fun K "check_clues" "check_clues" s_check_clues f_check_clues fd_check_clues
  g_check_clues : mg "check_clues" = some (.ref f_check_clues)
  b_check_clues : Binds K fd_check_clues ["clues"] []
  f_fits : Addr
  fd_fits : FuncData
  F_fits : Fun K "fits" "fits" s_fits f_fits fd_fits
  g_fits : mg "fits" = some (.ref f_fits)
  b_fits : Binds K fd_fits ["clues", "cells"] []
  f_fitting_of : Addr
  fd_fitting_of : FuncData
  F_fitting_of : Fun K "fitting_of" "fitting_of" s_fitting_of f_fitting_of fd_fitting_of
  g_fitting_of : mg "fitting_of" = some (.ref f_fitting_of)
  b_fitting_of : Binds K fd_fitting_of ["clues"] []
  g_One : mg "One" = some (.ref C.cOne)
  f_One_init : Addr
  fd_One_init : FuncData
  F_One_init : Fun K "__init__" "One.__init__" s_One_init f_One_init fd_One_init
  b_One_init : Binds K fd_One_init ["self", "cells"] []
  g_Two : mg "Two" = some (.ref C.cTwo)
  f_Two_init : Addr
  fd_Two_init : FuncData
  F_Two_init : Fun K "__init__" "Two.__init__" s_Two_init f_Two_init fd_Two_init
  b_Two_init : Binds K fd_Two_init ["self", "one", "other"] []
  f_told : Addr
  fd_told : FuncData
  F_told : Fun K "told" "told" s_told f_told fd_told
  g_told : mg "told" = some (.ref f_told)
  b_told : Binds K fd_told ["clues"] []
  f_fitting : Addr
  fd_fitting : FuncData
  F_fitting : Fun K "fitting" "fitting" s_fitting f_fitting fd_fitting
  g_fitting : mg "fitting" = some (.ref f_fitting)
  b_fitting : Binds K fd_fitting ["clues"] []
  g_Split : mg "Split" = some (.ref C.cSplit)
  f_Split_init : Addr
  fd_Split_init : FuncData
  F_Split_init : Fun K "__init__" "Split.__init__" s_Split_init f_Split_init fd_Split_init
  b_Split_init : Binds K fd_Split_init ["self", "one", "other"] []
  g_Hole : mg "Hole" = some (.ref C.cHole)
  f_Hole_init : Addr
  fd_Hole_init : FuncData
  F_Hole_init : Fun K "__init__" "Hole.__init__" s_Hole_init f_Hole_init fd_Hole_init
  b_Hole_init : Binds K fd_Hole_init ["self", "cell"] []
  f_judged : Addr
  fd_judged : FuncData
  F_judged : Fun K "judged" "judged" s_judged f_judged fd_judged
  g_judged : mg "judged" = some (.ref f_judged)
  b_judged : Binds K fd_judged ["grid", "cells"] []
  f_l_sound : Addr
  fd_l_sound : FuncData
  F_l_sound : Fun K "_law_sound" "_law_sound" s_l_sound f_l_sound fd_l_sound
  g_l_sound : mg "_law_sound" = some (.ref f_l_sound)
  b_l_sound : Binds K fd_l_sound ["_law_thing"] []
  f_One_shows : Addr
  fd_One_shows : FuncData
  F_One_shows : Fun K "shows" "One.shows" s_One_shows f_One_shows fd_One_shows
  b_One_shows : Binds K fd_One_shows ["self", "clues"] []
  f_Two_shows : Addr
  fd_Two_shows : FuncData
  F_Two_shows : Fun K "shows" "Two.shows" s_Two_shows f_Two_shows fd_Two_shows
  b_Two_shows : Binds K fd_Two_shows ["self", "clues"] []
  g_Never : mg "Never" = some (.ref C.cNever)
  f_Never_shows : Addr
  fd_Never_shows : FuncData
  F_Never_shows : Fun K "shows" "Never.shows" s_Never_shows f_Never_shows fd_Never_shows
  b_Never_shows : Binds K fd_Never_shows ["self", "clues"] []
  f_law : Addr
  fd_law : FuncData
  F_law : Fun K "law" "law" s_law f_law fd_law
  g_law : mg "law" = some (.ref f_law)
  b_law : Binds K fd_law ["_law_script"] []
  n_isinstance : mg "isinstance" = none
  n_int : mg "int" = none
  n_bool : mg "bool" = none
  n_tuple : mg "tuple" = none
  n_len : mg "len" = none
  n_all : mg "all" = none
  k_MOST : Tok
  g_MOST : mg "MOST" = some (.int 6 k_MOST)
  g_BadGrid : mg "BadGrid" = some (.ref C.cBadGrid)
  x_BadGrid : PySem.W.excIn K C.cBadGrid [.type "ValueError", .type "Exception", .type "BaseException", .type "object"] "ValueError.__new__" = true
  k_BadGrid : PySem.W.keepIn K (.ref C.cBadGrid) = true
  e_BadGrid : PySem.W.subIn K (.ref C.cBadGrid) (.type "BaseException") = some true
  y_BadGrid : PySem.W.typeIn K (.ref C.cBadGrid) = some (.type "type")
  k_FEW : Tok
  g_FEW : mg "FEW" = some (.int 9 k_FEW)
  n_range : mg "range" = none
  n_sorted : mg "sorted" = none
  n_list : mg "list" = none
  g_BadCells : mg "BadCells" = some (.ref C.cBadCells)
  x_BadCells : PySem.W.excIn K C.cBadCells [.type "ValueError", .type "Exception", .type "BaseException", .type "object"] "ValueError.__new__" = true
  k_BadCells : PySem.W.keepIn K (.ref C.cBadCells) = true
  e_BadCells : PySem.W.subIn K (.ref C.cBadCells) (.type "BaseException") = some true
  y_BadCells : PySem.W.typeIn K (.ref C.cBadCells) = some (.type "type")
  n_any : mg "any" = none
  n_zip : mg "zip" = none
  g_NoRing : mg "NoRing" = some (.ref C.cNoRing)
  x_NoRing : PySem.W.excIn K C.cNoRing [.type "ValueError", .type "Exception", .type "BaseException", .type "object"] "ValueError.__new__" = true
  k_NoRing : PySem.W.keepIn K (.ref C.cNoRing) = true
  e_NoRing : PySem.W.subIn K (.ref C.cNoRing) (.type "BaseException") = some true
  y_NoRing : PySem.W.typeIn K (.ref C.cNoRing) = some (.type "type")
  g_BadClues : mg "BadClues" = some (.ref C.cBadClues)
  x_BadClues : PySem.W.excIn K C.cBadClues [.type "ValueError", .type "Exception", .type "BaseException", .type "object"] "ValueError.__new__" = true
  k_BadClues : PySem.W.keepIn K (.ref C.cBadClues) = true
  e_BadClues : PySem.W.subIn K (.ref C.cBadClues) (.type "BaseException") = some true
  y_BadClues : PySem.W.typeIn K (.ref C.cBadClues) = some (.type "type")
  cl_One : Cls K C.cOne
  cf_One : Cf K C.cOne ["cells"]
  cl_Two : Cls K C.cTwo
  cf_Two : Cf K C.cTwo ["one", "other"]
  m_Never : Mk0 K C.cNever
  m_One : Mk K C.cOne f_One_init
  m_Two : Mk K C.cTwo f_Two_init
  cl_Split : Cls K C.cSplit
  cf_Split : Cf K C.cSplit ["one", "other"]
  cl_Hole : Cls K C.cHole
  cf_Hole : Cf K C.cHole ["cell"]
  m_Split : Mk K C.cSplit f_Split_init
  g_Ring : mg "Ring" = some (.ref C.cRing)
  m_Ring : Mk0 K C.cRing
  m_Hole : Mk K C.cHole f_Hole_init
  n_str : mg "str" = none
  ci_One : Ci K C.cOne
  ci_Two : Ci K C.cTwo
  cl_Never : Cls K C.cNever
  ci_Never : Ci K C.cNever
  ki_One_One : PySem.W.kitOne K (.ref C.cOne) (.ref C.cOne) = some true
  ki_Two_One : PySem.W.kitOne K (.ref C.cTwo) (.ref C.cOne) = some false
  ki_Never_One : PySem.W.kitOne K (.ref C.cNever) (.ref C.cOne) = some false
  ki_One_Two : PySem.W.kitOne K (.ref C.cOne) (.ref C.cTwo) = some false
  ki_Two_Two : PySem.W.kitOne K (.ref C.cTwo) (.ref C.cTwo) = some true
  ki_Never_Two : PySem.W.kitOne K (.ref C.cNever) (.ref C.cTwo) = some false
  n_abs : mg "abs" = none
  n_sum : mg "sum" = none
  mt_One_shows : Meth K C.cOne "shows" f_One_shows
  mt_Two_shows : Meth K C.cTwo "shows" f_Two_shows
  mt_Never_shows : Meth K C.cNever "shows" f_Never_shows
section
variable {P : Program} {w : World} {K : PySem.W.Frag} {mg : Str → Option Value} {base : Heap}
set_option maxHeartbeats 4000000 in
theorem ok_is_whole (T : Tx K mg) : FnOk P w K mg base CX0 1 T.f_is_whole T.fd_is_whole ["thing"] (sp_is_whole K) := by
  refine T.F_is_whole.ok sc_is_whole (fun vs H Q E h => by obtain ⟨_, _, rfl, _⟩ := h; rfl) (fun cdv A outer s H vs Q E hr h => ⟨t_is_whole K, ?_, pure_is_whole rfl h⟩)
  exact (pss_one (ps_ret (pe_and (pe_callB call_isi (by rfl) T.n_isinstance (by decide +kernel) (pa_cons (pv 0) (pa_cons (pe_bltn (v := .ty "int") (by rfl) T.n_int (by decide +kernel) rfl) pa_nil))) (pe_one (pe_not (pe_callB call_isi (by rfl) T.n_isinstance (by decide +kernel) (pa_cons (pv 0) (pa_cons (pe_bltn (v := .ty "bool") (by rfl) T.n_bool (by decide +kernel) rfl) pa_nil))))))))
set_option maxHeartbeats 4000000 in
theorem ok_check_grid (T : Tx K mg) : FnOk P w K mg base (L2.CX P w) 2 T.f_check_grid T.fd_check_grid ["grid"] (sp_check_grid K T.C) := by
  refine T.F_check_grid.okX sc_check_grid (fun vs H Q E h => by obtain ⟨_, rfl, _⟩ := h; rfl) (fun cdv A outer s H vs Q E hr h => ⟨t_check_grid K T.C E, ?_, pure_check_grid rfl h⟩)
  exact (pss_one (ps_if (PW.pt (pw_or (pt_not (pt_val (pe_callB call_isi (by rfl) T.n_isinstance (by decide +kernel) (pa_cons (pv 0) (pa_cons (pe_bltn (v := .ty "tuple") (by rfl) T.n_tuple (by decide +kernel) rfl) pa_nil))))) (pw_or (pt_cmpR op_ne (pe_callB call_len_seq (by rfl) T.n_len (by decide +kernel) (pa_cons (pv 0) pa_nil)) pe_int (nomark _)) (pw_or1 (pt_not (pt_val (pe_callB (cr_all rfl) (by rfl) T.n_all (by decide +kernel) (pa_cons (pe_lc (own := [("one", 1)]) (g := (gName 1)) (tt := tYes) (te := (tAndV (tCall (sp_is_whole K) [] E0 (tCons (tVar 1) tNil)) (tChain oLe oLe (tC (.int 1)) (tVar 1) (tC (.int 6))))) rfl sc_check_grid.nd (pi_tup (pv 0)) (blkOk_by (own := [("one", 1)]) (by kernel_rfl)) (fun _ _ _ _ _ => (pg_name (i := 1) sc_check_grid.nd rfl (.inl rfl))) (fun _ _ _ _ _ => pts_nil) (fun _ _ _ _ _ => (pe_and (pe_call (ok_is_whole T) (hr.mono (by decide)) rfl T.g_is_whole T.F_is_whole.kp T.b_is_whole .nil pass0 (pa_cons (pv 1) pa_nil)) (pe_one (pe_chain op_le op_le pe_int (pv 1) (pe_glob rfl T.g_MOST ⟨_, rfl⟩)))))) pa_nil)))))))) (pss_one (ps_raise rfl (takes_of rfl rfl rfl rfl) (pmk_own PySem.F.excBase_ValueError T.x_BadGrid T.g_BadGrid T.k_BadGrid (raises_own T.e_BadGrid T.y_BadGrid) (by rfl)))) pss_nil))
set_option maxHeartbeats 4000000 in
theorem ok_check_few (T : Tx K mg) : FnOk P w K mg base (L2.CX P w) 3 T.f_check_few T.fd_check_few ["grid"] (sp_check_few K T.C) := by
  refine T.F_check_few.okX sc_check_few (fun vs H Q E h => by obtain ⟨_, rfl, _⟩ := h; rfl) (fun cdv A outer s H vs Q E hr h => ⟨t_check_few K T.C E, ?_, pure_check_few rfl h⟩)
  exact (pss_cons (ps_expr (pe_call (ok_check_grid T) (hr.mono (by decide)) rfl T.g_check_grid T.F_check_grid.kp T.b_check_grid .nil (passes_call (takes_of rfl rfl rfl rfl) (fun _ _ _ _ h => h)) (pa_cons (pv 0) pa_nil)))
      (pss_one (ps_if (pt_cmpR op_gt (pe_op op_mul (pe_ix ix_tup (pv 0) pe_int (fun _ _ => rfl)) (pe_ix ix_tup (pv 0) pe_int (fun _ _ => rfl))) (pe_glob rfl T.g_FEW ⟨_, rfl⟩) (nomark _)) (pss_one (ps_raise rfl (takes_of rfl rfl rfl rfl) (pmk_own PySem.F.excBase_ValueError T.x_BadGrid T.g_BadGrid T.k_BadGrid (raises_own T.e_BadGrid T.y_BadGrid) (by rfl)))) pss_nil)))
set_option maxHeartbeats 4000000 in
theorem ok_beside (T : Tx K mg) : FnOk P w K mg base CX0 1 T.f_beside T.fd_beside ["grid", "cell"] (sp_beside K) := by
  refine T.F_beside.ok sc_beside (fun vs H Q E h => by obtain ⟨_, _, _, _, rfl, _⟩ := h; rfl) (fun cdv A outer s H vs Q E hr h => ⟨t_beside K, ?_, pure_beside rfl h⟩)
  exact (pss_cons (ps_asg (pv 0) (pg_tup rfl (pgs_cons (pg_name (i := 2) sc_beside.nd rfl (.inl rfl)) (pgs_cons (pg_name (i := 3) sc_beside.nd rfl (.inl rfl)) pgs_nil))))
      (pss_cons (ps_set (i := 4) sc_beside.nd rfl (.inl rfl) (pe_lst pa_nil))
      (pss_cons (ps_if (pt_cmpR op_ge (pv 1) (pv 3) (nomark _)) (pss_one (ps_expr (pe_bm PySem.F.plainAttrs_list PySem.F.slot_list_append PySem.F.type_list_append mt_append (pv 4) (pa_cons (pe_op op_sub (pv 1) (pv 3)) pa_nil)))) pss_nil)
      (pss_cons (ps_if (pt_cmpR op_gt (pe_op op_mod (pv 1) (pv 3)) pe_int (nomark _)) (pss_one (ps_expr (pe_bm PySem.F.plainAttrs_list PySem.F.slot_list_append PySem.F.type_list_append mt_append (pv 4) (pa_cons (pe_op op_sub (pv 1) pe_int) pa_nil)))) pss_nil)
      (pss_cons (ps_if (pt_cmpR op_lt (pe_op op_mod (pv 1) (pv 3)) (pe_op op_sub (pv 3) pe_int) (nomark _)) (pss_one (ps_expr (pe_bm PySem.F.plainAttrs_list PySem.F.slot_list_append PySem.F.type_list_append mt_append (pv 4) (pa_cons (pe_op op_add (pv 1) pe_int) pa_nil)))) pss_nil)
      (pss_cons (ps_if (pt_cmpR op_lt (pv 1) (pe_op op_mul (pv 3) (pe_op op_sub (pv 2) pe_int)) (nomark _)) (pss_one (ps_expr (pe_bm PySem.F.plainAttrs_list PySem.F.slot_list_append PySem.F.type_list_append mt_append (pv 4) (pa_cons (pe_op op_add (pv 1) (pv 3)) pa_nil)))) pss_nil)
      (pss_one (ps_ret (pv 4)))))))))
set_option maxHeartbeats 4000000 in
theorem ok_spread (T : Tx K mg) : FnOk P w K mg base CX0 2 T.f_spread T.fd_spread ["grid", "first", "some"] (sp_spread K) := by
  refine T.F_spread.ok sc_spread (fun vs H Q E h => by obtain ⟨_, _, _, _, _, _, rfl, _⟩ := h; rfl) (fun cdv A outer s H vs Q E hr h => ⟨t_spread K, ?_, pure_spread rfl h⟩)
  exact (pss_cons (ps_asg (pe_tup (pa_cons (pe_lst (pa_cons (pv 1) pa_nil)) (pa_cons pe_int pa_nil))) (pg_tup rfl (pgs_cons (pg_name (i := 3) sc_spread.nd rfl (.inr rfl)) (pgs_cons (pg_name (i := 4) sc_spread.nd rfl (.inl rfl)) pgs_nil))))
      (pss_cons (ps_while PassesOwn.never (pt_cmpR op_lt (pv 4) (pe_callB call_len_seq (by rfl) T.n_len (by decide +kernel) (pa_cons (pv 3) pa_nil)) (nomark _)) (pss_cons (ps_expr (pe_bm PySem.F.plainAttrs_list PySem.F.slot_list_extend PySem.F.type_list_extend mt_extend (pv 3) (pa_cons (pe_lc (own := [("one", 5)]) (g := (gName 5)) (tt := (tAnd (tTest (tOp (rIn K false) (tVar 5) (tVar 2))) (tTest (tOp (rIn K true) (tVar 5) (tVar 3))))) (te := (tVar 5)) rfl sc_spread.nd (pi_list (pe_call (ok_beside T) (hr.mono (by decide)) rfl T.g_beside T.F_beside.kp T.b_beside .nil pass0 (pa_cons (pv 0) (pa_cons (pe_ix ix_list (pv 3) (pv 4) (fun _ _ => rfl)) pa_nil)))) (blkOk_by (own := [("one", 5)]) (by kernel_rfl)) (fun _ _ _ _ _ => (pg_name (i := 5) sc_spread.nd rfl (.inl rfl))) (fun _ _ _ _ _ => (pts_one (PW.pt (pw_and (pt_cmpR op_in_seq (pv 5) (pv 2) (by rfl)) (pw_and1 (pt_cmpR op_notIn_seq (pv 5) (pv 3) (by rfl))))))) (fun _ _ _ _ _ => (pv 5))) pa_nil)))
      (pss_one (ps_aug (i := 4) sc_spread.nd rfl (.inl rfl) pe_int ip_add))))
      (pss_one (ps_ret (pv 3)))))
set_option maxHeartbeats 4000000 in
theorem ok_is_inner (T : Tx K mg) : FnOk P w K mg base CX0 3 T.f_is_inner T.fd_is_inner ["grid", "cells", "cell"] (sp_is_inner K) := by
  refine T.F_is_inner.ok sc_is_inner (fun vs H Q E h => by obtain ⟨_, _, _, _, _, _, rfl, _⟩ := h; rfl) (fun cdv A outer s H vs Q E hr h => ⟨t_is_inner K, ?_, pure_is_inner rfl h⟩)
  exact (pss_cons (ps_asg (pv 0) (pg_tup rfl (pgs_cons (pg_name (i := 3) sc_is_inner.nd rfl (.inl rfl)) (pgs_cons (pg_name (i := 4) sc_is_inner.nd rfl (.inl rfl)) pgs_nil))))
      (pss_cons (ps_setLc (i := 5) (own := [("one", 6)]) (g := (gName 6)) (tt := (tTest (tOp (rIn K true) (tVar 6) (tVar 1)))) (te := (tVar 6)) rfl sc_is_inner.nd rfl rfl (sw_true rfl rfl rfl (by decide +kernel)) (pi_range1 rfl T.n_range (pa_cons (pe_op op_mul (pv 3) (pv 4)) pa_nil)) (blkOk_by (own := [("one", 6)]) (by kernel_rfl)) (fun _ _ _ _ _ => (pg_name (i := 6) sc_is_inner.nd rfl (.inl rfl))) (fun _ _ _ _ _ => (pts_one (pt_cmpR op_notIn_seq (pv 6) (pv 1) (by rfl)))) (fun _ _ _ _ _ => (pv 6)))
      (pss_cons (ps_for PassesOwn.never rfl (pi_list (pe_call (ok_spread T) (hr.mono (by decide)) rfl T.g_spread T.F_spread.kp T.b_spread .nil pass0 (pa_cons (pv 0) (pa_cons (pv 2) (pa_cons (pv 5) pa_nil))))) (pg_name (i := 6) sc_is_inner.nd rfl (.inl rfl)) (pss_one (ps_if (PW.pt (pw_or (pt_cmpR op_lt (pv 6) (pv 4) (nomark _)) (pw_or (pt_cmpR op_ge (pv 6) (pe_op op_mul (pv 4) (pe_op op_sub (pv 3) pe_int)) (nomark _)) (pw_or1 (pt_cmpR op_in_seq (pe_op op_mod (pv 6) (pv 4)) (pe_tup (pa_cons pe_int (pa_cons (pe_op op_sub (pv 4) pe_int) pa_nil))) (by rfl)))))) (pss_one (ps_ret pe_bl)) pss_nil)))
      (pss_one (ps_ret pe_bl)))))
set_option maxHeartbeats 4000000 in
theorem ok_first_inner (T : Tx K mg) : FnOk P w K mg base CX0 4 T.f_first_inner T.fd_first_inner ["grid", "cells"] (sp_first_inner K) := by
  refine T.F_first_inner.ok sc_first_inner (fun vs H Q E h => by obtain ⟨_, _, _, _, _, rfl, _⟩ := h; rfl) (fun cdv A outer s H vs Q E hr h => ⟨t_first_inner K, ?_, pure_first_inner rfl h⟩)
  exact (pss_cons (ps_for PassesOwn.never rfl (pi_range1 rfl T.n_range (pa_cons (pe_op op_mul (pe_ix ix_tup (pv 0) pe_int (fun _ _ => rfl)) (pe_ix ix_tup (pv 0) pe_int (fun _ _ => rfl))) pa_nil)) (pg_name (i := 2) sc_first_inner.nd rfl (.inl rfl)) (pss_one (ps_if (PW.pt (pw_and (pt_cmpR op_notIn_seq (pv 2) (pv 1) (by rfl)) (pw_and1 (pt_val (pe_call (ok_is_inner T) (hr.mono (by decide)) rfl T.g_is_inner T.F_is_inner.kp T.b_is_inner .nil pass0 (pa_cons (pv 0) (pa_cons (pv 1) (pa_cons (pv 2) pa_nil)))))))) (pss_one (ps_ret (pv 2))) pss_nil)))
      (pss_one (ps_ret pe_non)))
set_option maxHeartbeats 4000000 in
theorem ok_is_ring (T : Tx K mg) : FnOk P w K mg base CX0 5 T.f_is_ring T.fd_is_ring ["grid", "cells"] (sp_is_ring K) := by
  refine T.F_is_ring.ok sc_is_ring (fun vs H Q E h => by obtain ⟨_, _, _, _, _, rfl, _⟩ := h; rfl) (fun cdv A outer s H vs Q E hr h => ⟨t_is_ring K, ?_, pure_is_ring rfl h⟩)
  exact (pss_cons (ps_if (pt_cmpR op_lt (pe_callB call_len_seq (by rfl) T.n_len (by decide +kernel) (pa_cons (pe_call (ok_spread T) (hr.mono (by decide)) rfl T.g_spread T.F_spread.kp T.b_spread .nil pass0 (pa_cons (pv 0) (pa_cons (pe_ix ix_list (pv 1) pe_int (fun _ _ => rfl)) (pa_cons (pv 1) pa_nil)))) pa_nil)) (pe_callB call_len_seq (by rfl) T.n_len (by decide +kernel) (pa_cons (pv 1) pa_nil)) (nomark _)) (pss_one (ps_ret pe_bl)) pss_nil)
      (pss_one (ps_ret (pe_cmpR op_isN1 (pe_call (ok_first_inner T) (hr.mono (by decide)) rfl T.g_first_inner T.F_first_inner.kp T.b_first_inner .nil pass0 (pa_cons (pv 0) (pa_cons (pv 1) pa_nil))) pe_non (nomark _)))))
set_option maxHeartbeats 4000000 in
theorem ok_all_rings (T : Tx K mg) : FnOk P w K mg base CX0 6 T.f_all_rings T.fd_all_rings ["grid"] (sp_all_rings K) := by
  refine T.F_all_rings.ok sc_all_rings (fun vs H Q E h => by obtain ⟨_, _, _, rfl, _⟩ := h; rfl) (fun cdv A outer s H vs Q E hr h => ⟨t_all_rings K, ?_, pure_all_rings rfl h⟩)
  exact (pss_cons (ps_par (i := 1) (j := 2) (by rfl) sc_all_rings.nd rfl rfl (by decide) rfl rfl (pa_cons (pe_op op_mul (pe_ix ix_tup (pv 0) pe_int (fun _ _ => rfl)) (pe_ix ix_tup (pv 0) pe_int (fun _ _ => rfl))) (pa_cons (pe_lst pa_nil) pa_nil)) (by rfl))
      (pss_cons (ps_for PassesOwn.never rfl (pi_range2 rfl T.n_range (pa_cons pe_int (pa_cons (pe_op op_shl pe_int (pv 1)) pa_nil))) (pg_name (i := 3) sc_all_rings.nd rfl (.inr rfl)) (pss_cons (ps_setLc (i := 4) (own := [("cell", 5)]) (g := (gName 5)) (tt := (tTest (tOp rEq (tOp oAnd (tOp oShr (tVar 3) (tVar 5)) (tC (.int 1))) (tC (.int 1))))) (te := (tVar 5)) rfl sc_all_rings.nd rfl rfl (sw_true rfl rfl rfl (by decide +kernel)) (pi_range1 rfl T.n_range (pa_cons (pv 1) pa_nil)) (blkOk_by (own := [("cell", 5)]) (by kernel_rfl)) (fun _ _ _ _ _ => (pg_name (i := 5) sc_all_rings.nd rfl (.inl rfl))) (fun _ _ _ _ _ => (pts_one (pt_cmpR op_eq (pe_op op_and (pe_op op_shr (pv 3) (pv 5)) pe_int) pe_int (nomark _)))) (fun _ _ _ _ _ => (pv 5)))
      (pss_one (ps_if (pt_val (pe_call (ok_is_ring T) (hr.mono (by decide)) rfl T.g_is_ring T.F_is_ring.kp T.b_is_ring .nil pass0 (pa_cons (pv 0) (pa_cons (pv 4) pa_nil)))) (pss_one (ps_expr (pe_bm PySem.F.plainAttrs_list PySem.F.slot_list_append PySem.F.type_list_append mt_append (pv 2) (pa_cons (pv 4) pa_nil)))) pss_nil))))
      (pss_one (ps_ret (pe_callB (cr_sortV (enc := dI) hr.units) (by rfl) T.n_sorted (by decide +kernel) (pa_cons (pv 2) pa_nil))))))
set_option maxHeartbeats 4000000 in
theorem ok_rings (T : Tx K mg) : FnOk P w K mg base (L2.CX P w) 7 T.f_rings T.fd_rings ["grid"] (sp_rings K T.C) := by
  refine T.F_rings.okX sc_rings (fun vs H Q E h => by obtain ⟨_, rfl, _⟩ := h; rfl) (fun cdv A outer s H vs Q E hr h => ⟨t_rings K T.C E, ?_, pure_rings rfl h⟩)
  exact (pss_cons (ps_expr (pe_call (ok_check_few T) (hr.mono (by decide)) rfl T.g_check_few T.F_check_few.kp T.b_check_few .nil (passes_call (takes_of rfl rfl rfl rfl) (fun _ _ _ _ h => h)) (pa_cons (pv 0) pa_nil)))
      (pss_one (ps_ret (pe_call (ok_all_rings T) (hr.mono (by decide)) rfl T.g_all_rings T.F_all_rings.kp T.b_all_rings .nil pass0 (pa_cons (pv 0) pa_nil)))))
set_option maxHeartbeats 4000000 in
theorem ok_check_cells (T : Tx K mg) : FnOk P w K mg base (L2.CX P w) 2 T.f_check_cells T.fd_check_cells ["grid", "cells"] (sp_check_cells K T.C) := by
  refine T.F_check_cells.okX sc_check_cells (fun vs H Q E h => by obtain ⟨_, _, _, _, rfl, _⟩ := h; rfl) (fun cdv A outer s H vs Q E hr h => ⟨t_check_cells K T.C E, ?_, pure_check_cells rfl h⟩)
  exact (pss_cons (ps_set (i := 2) sc_check_cells.nd rfl (.inr rfl) (pe_op op_mul (pe_ix ix_tup (pv 0) pe_int (fun _ _ => rfl)) (pe_ix ix_tup (pv 0) pe_int (fun _ _ => rfl))))
      (pss_cons (ps_if (PW.pt (pw_or (pt_not (pt_val (pe_callB call_isi (by rfl) T.n_isinstance (by decide +kernel) (pa_cons (pv 1) (pa_cons (pe_bltn (v := .ty "list") (by rfl) T.n_list (by decide +kernel) rfl) pa_nil))))) (pw_or (pt_cmpR (op_eqD hr.units) (pv 1) (pe_lst pa_nil) (nomark _)) (pw_or1 (pt_not (pt_val (pe_callB (cr_all rfl) (by rfl) T.n_all (by decide +kernel) (pa_cons (pe_lc (own := [("one", 3)]) (g := (gName 3)) (tt := tYes) (te := (tAndV (tCall (sp_is_whole K) [] E0 (tCons (tVar 3) tNil)) (tChain oLe oLt (tC (.int 0)) (tVar 3) (tVar 2)))) rfl sc_check_cells.nd (pi_list (pv 1)) (blkOk_by (own := [("one", 3)]) (by kernel_rfl)) (fun _ _ _ _ _ => (pg_name (i := 3) sc_check_cells.nd rfl (.inl rfl))) (fun _ _ _ _ _ => pts_nil) (fun _ _ _ _ _ => (pe_and (pe_call (ok_is_whole T) (hr.mono (by decide)) rfl T.g_is_whole T.F_is_whole.kp T.b_is_whole .nil pass0 (pa_cons (pv 3) pa_nil)) (pe_one (pe_chain op_le op_lt pe_int (pv 3) (pv 2)))))) pa_nil)))))))) (pss_one (ps_raise rfl (takes_of rfl rfl rfl rfl) (pmk_own PySem.F.excBase_ValueError T.x_BadCells T.g_BadCells T.k_BadCells (raises_own T.e_BadCells T.y_BadCells) (by rfl)))) pss_nil)
      (pss_one (ps_if (pt_val (pe_callB (cr_any rfl) (by rfl) T.n_any (by decide +kernel) (pa_cons (pe_lc (own := [("one", 3), ("other", 4)]) (g := (gTup K 2 (gCons (gName 3) (gCons (gName 4) gNil)))) (tt := tYes) (te := (tOp oGe (tVar 3) (tVar 4))) rfl sc_check_cells.nd (pi_zip (by rfl) T.n_zip (pa_cons (pv 1) (pa_cons (pe_slice sl_list (pv 1) (po_some pe_int) po_none) pa_nil))) (blkOk_by (own := [("one", 3), ("other", 4)]) (by kernel_rfl)) (fun _ _ _ _ _ => (pg_tup rfl (pgs_cons (pg_name (i := 3) sc_check_cells.nd rfl (.inl rfl)) (pgs_cons (pg_name (i := 4) sc_check_cells.nd rfl (.inl rfl)) pgs_nil)))) (fun _ _ _ _ _ => pts_nil) (fun _ _ _ _ _ => (pe_cmpR op_ge (pv 3) (pv 4) (nomark _)))) pa_nil))) (pss_one (ps_raise rfl (takes_of rfl rfl rfl rfl) (pmk_own PySem.F.excBase_ValueError T.x_BadCells T.g_BadCells T.k_BadCells (raises_own T.e_BadCells T.y_BadCells) (by rfl)))) pss_nil))))
set_option maxHeartbeats 4000000 in
theorem ok_sides_of (T : Tx K mg) : FnOk P w K mg base CX0 2 T.f_sides_of T.fd_sides_of ["grid", "cells", "cell"] (sp_sides_of K) := by
  refine T.F_sides_of.ok sc_sides_of (fun vs H Q E h => by obtain ⟨_, _, _, _, _, _, rfl, _⟩ := h; rfl) (fun cdv A outer s H vs Q E hr h => ⟨t_sides_of K, ?_, pure_sides_of rfl h⟩)
  exact (pss_cons (ps_set (i := 3) sc_sides_of.nd rfl (.inl rfl) (pe_callB call_len_seq (by rfl) T.n_len (by decide +kernel) (pa_cons (pe_lc (own := [("one", 4)]) (g := (gName 4)) (tt := (tTest (tOp (rIn K false) (tVar 4) (tVar 1)))) (te := (tVar 4)) rfl sc_sides_of.nd (pi_list (pe_call (ok_beside T) (hr.mono (by decide)) rfl T.g_beside T.F_beside.kp T.b_beside .nil pass0 (pa_cons (pv 0) (pa_cons (pv 2) pa_nil)))) (blkOk_by (own := [("one", 4)]) (by kernel_rfl)) (fun _ _ _ _ _ => (pg_name (i := 4) sc_sides_of.nd rfl (.inl rfl))) (fun _ _ _ _ _ => (pts_one (pt_cmpR op_in_seq (pv 4) (pv 1) (by rfl)))) (fun _ _ _ _ _ => (pv 4))) pa_nil)))
      (pss_one (ps_ret (pe_ifExp (pt_cmpR op_in_seq (pv 2) (pv 1) (by rfl)) (pe_op op_sub pe_int (pv 3)) (pv 3)))))
set_option maxHeartbeats 4000000 in
theorem ok_numbers_of (T : Tx K mg) : FnOk P w K mg base CX0 3 T.f_numbers_of T.fd_numbers_of ["grid", "cells"] (sp_numbers_of K) := by
  refine T.F_numbers_of.ok sc_numbers_of (fun vs H Q E h => by obtain ⟨_, _, _, _, _, rfl, _⟩ := h; rfl) (fun cdv A outer s H vs Q E hr h => ⟨t_numbers_of K, ?_, pure_numbers_of rfl h⟩)
  exact (pss_cons (ps_asg (pv 0) (pg_tup rfl (pgs_cons (pg_name (i := 2) sc_numbers_of.nd rfl (.inl rfl)) (pgs_cons (pg_name (i := 3) sc_numbers_of.nd rfl (.inr rfl)) pgs_nil))))
      (pss_one (ps_ret (pe_lc (own := [("row", 4)]) (g := (gName 4)) (tt := tYes) (te := (tLc (iRng1 (tCons (tVar 3) tNil)) (gName 5) tYes (tCall (sp_sides_of K) [] E0 (tCons (tVar 0) (tCons (tVar 1) (tCons (tOp oAdd (tOp oMul (tVar 4) (tVar 3)) (tVar 5)) tNil)))) [5])) rfl sc_numbers_of.nd (pi_range1 rfl T.n_range (pa_cons (pv 2) pa_nil)) (blkOk_by (own := [("row", 4)]) (by kernel_rfl)) (fun _ _ _ _ _ => (pg_name (i := 4) sc_numbers_of.nd rfl (.inr rfl))) (fun _ _ _ _ _ => pts_nil) (fun _ _ _ _ _ => (pe_lc (own := [("at", 5)]) (g := (gName 5)) (tt := tYes) (te := (tCall (sp_sides_of K) [] E0 (tCons (tVar 0) (tCons (tVar 1) (tCons (tOp oAdd (tOp oMul (tVar 4) (tVar 3)) (tVar 5)) tNil))))) rfl sc_numbers_of.nd (pi_range1 rfl T.n_range (pa_cons (pv 3) pa_nil)) (blkOk_by (own := [("at", 5)]) (by kernel_rfl)) (fun _ _ _ _ _ => (pg_name (i := 5) sc_numbers_of.nd rfl (.inl rfl))) (fun _ _ _ _ _ => pts_nil) (fun _ _ _ _ _ => (pe_call (ok_sides_of T) (hr.mono (by decide)) rfl T.g_sides_of T.F_sides_of.kp T.b_sides_of .nil pass0 (pa_cons (pv 0) (pa_cons (pv 1) (pa_cons (pe_op op_add (pe_op op_mul (pv 4) (pv 3)) (pv 5)) pa_nil)))))))))))
set_option maxHeartbeats 4000000 in
theorem ok_numbers (T : Tx K mg) : FnOk P w K mg base (L2.CX P w) 4 T.f_numbers T.fd_numbers ["grid", "cells"] (sp_numbers K T.C) := by
  refine T.F_numbers.okX sc_numbers (fun vs H Q E h => by obtain ⟨_, _, rfl, _⟩ := h; rfl) (fun cdv A outer s H vs Q E hr h => ⟨t_numbers K T.C E, ?_, pure_numbers rfl h⟩)
  exact (pss_cons (ps_expr (pe_call (ok_check_grid T) (hr.mono (by decide)) rfl T.g_check_grid T.F_check_grid.kp T.b_check_grid .nil (passes_call (takes_of rfl rfl rfl rfl) (fun _ _ _ _ h => h)) (pa_cons (pv 0) pa_nil)))
      (pss_cons (ps_expr (pe_call (ok_check_cells T) (hr.mono (by decide)) rfl T.g_check_cells T.F_check_cells.kp T.b_check_cells .nil (passes_call (takes_of rfl rfl rfl rfl) (fun _ _ _ _ h => h)) (pa_cons (pv 0) (pa_cons (pv 1) pa_nil))))
      (pss_one (ps_ret (pe_call (ok_numbers_of T) (hr.mono (by decide)) rfl T.g_numbers_of T.F_numbers_of.kp T.b_numbers_of .nil pass0 (pa_cons (pv 0) (pa_cons (pv 1) pa_nil)))))))
set_option maxHeartbeats 4000000 in
theorem ok_side_ahead (T : Tx K mg) : FnOk P w K mg base CX0 1 T.f_side_ahead T.fd_side_ahead ["grid", "cells", "point", "turn"] (sp_side_ahead K) := by
  refine T.F_side_ahead.ok sc_side_ahead (fun vs H Q E h => by obtain ⟨_, _, _, _, _, _, _, _, _, rfl, _⟩ := h; rfl) (fun cdv A outer s H vs Q E hr h => ⟨t_side_ahead K, ?_, pure_side_ahead rfl h⟩)
  exact (pss_cons (ps_asg (pv 0) (pg_tup rfl (pgs_cons (pg_name (i := 4) sc_side_ahead.nd rfl (.inl rfl)) (pgs_cons (pg_name (i := 5) sc_side_ahead.nd rfl (.inl rfl)) pgs_nil))))
      (pss_cons (ps_asg (pv 2) (pg_tup rfl (pgs_cons (pg_name (i := 6) sc_side_ahead.nd rfl (.inl rfl)) (pgs_cons (pg_name (i := 7) sc_side_ahead.nd rfl (.inl rfl)) pgs_nil))))
      (pss_cons (ps_set (i := 8) sc_side_ahead.nd rfl (.inl rfl) (pe_tup (pa_cons (pe_tup (pa_cons (pe_tup (pa_cons (pe_op op_sub (pv 6) pe_int) (pa_cons (pv 7) pa_nil))) (pa_cons (pe_tup (pa_cons (pv 6) (pa_cons (pv 7) pa_nil))) pa_nil))) (pa_cons (pe_tup (pa_cons (pe_tup (pa_cons (pv 6) (pa_cons (pv 7) pa_nil))) (pa_cons (pe_tup (pa_cons (pv 6) (pa_cons (pe_op op_sub (pv 7) pe_int) pa_nil))) pa_nil))) (pa_cons (pe_tup (pa_cons (pe_tup (pa_cons (pv 6) (pa_cons (pe_op op_sub (pv 7) pe_int) pa_nil))) (pa_cons (pe_tup (pa_cons (pe_op op_sub (pv 6) pe_int) (pa_cons (pe_op op_sub (pv 7) pe_int) pa_nil))) pa_nil))) (pa_cons (pe_tup (pa_cons (pe_tup (pa_cons (pe_op op_sub (pv 6) pe_int) (pa_cons (pe_op op_sub (pv 7) pe_int) pa_nil))) (pa_cons (pe_tup (pa_cons (pe_op op_sub (pv 6) pe_int) (pa_cons (pv 7) pa_nil))) pa_nil))) pa_nil))))))
      (pss_cons (ps_set (i := 9) sc_side_ahead.nd rfl (.inl rfl) (pe_lst pa_nil))
      (pss_cons (ps_for PassesOwn.never rfl (pi_tup (pe_ix ix_tup (pv 8) (pv 3) (fun _ _ => rfl))) (pg_tup rfl (pgs_cons (pg_name (i := 10) sc_side_ahead.nd rfl (.inl rfl)) (pgs_cons (pg_name (i := 11) sc_side_ahead.nd rfl (.inl rfl)) pgs_nil))) (pss_one (ps_expr (pe_bm PySem.F.plainAttrs_list PySem.F.slot_list_append PySem.F.type_list_append mt_append (pv 9) (pa_cons (pe_and (pe_chain op_le op_lt pe_int (pv 10) (pv 4)) (pe_and (pe_chain op_le op_lt pe_int (pv 11) (pv 5)) (pe_one (pe_cmpR op_in_seq (pe_op op_add (pe_op op_mul (pv 10) (pv 5)) (pv 11)) (pv 1) (by rfl))))) pa_nil)))))
      (pss_one (ps_ret (pe_cmpR op_ne (pe_ix ix_list (pv 9) pe_int (fun _ _ => rfl)) (pe_ix ix_list (pv 9) pe_int (fun _ _ => rfl)) (nomark _)))))))))
set_option maxHeartbeats 4000000 in
theorem ok_walk (T : Tx K mg) : FnOk P w K mg base (L2.CX P w) 6 T.f_walk T.fd_walk ["grid", "cells"] (sp_walk K T.C) := by
  refine T.F_walk.okX sc_walk (fun vs H Q E h => by obtain ⟨_, _, rfl, _⟩ := h; rfl) (fun cdv A outer s H vs Q E hr h => ⟨t_walk K T.C E, ?_, pure_walk rfl h⟩)
  exact (pss_cons (ps_expr (pe_call (ok_check_grid T) (hr.mono (by decide)) rfl T.g_check_grid T.F_check_grid.kp T.b_check_grid .nil (passes_call (takes_of rfl rfl rfl rfl) (fun _ _ _ _ h => h)) (pa_cons (pv 0) pa_nil)))
      (pss_cons (ps_expr (pe_call (ok_check_cells T) (hr.mono (by decide)) rfl T.g_check_cells T.F_check_cells.kp T.b_check_cells .nil (passes_call (takes_of rfl rfl rfl rfl) (fun _ _ _ _ h => h)) (pa_cons (pv 0) (pa_cons (pv 1) pa_nil))))
      (pss_cons (ps_if (pt_not (pt_val (pe_call (ok_is_ring T) (hr.mono (by decide)) rfl T.g_is_ring T.F_is_ring.kp T.b_is_ring .nil pass0 (pa_cons (pv 0) (pa_cons (pv 1) pa_nil))))) (pss_one (ps_raise rfl (takes_of rfl rfl rfl rfl) (pmk_own PySem.F.excBase_ValueError T.x_NoRing T.g_NoRing T.k_NoRing (raises_own T.e_NoRing T.y_NoRing) (by rfl)))) pss_nil)
      (pss_cons (ps_set (i := 2) sc_walk.nd rfl (.inl rfl) (pe_tup (pa_cons (pe_op op_fdiv (pe_ix ix_list (pv 1) pe_int (fun _ _ => rfl)) (pe_ix ix_tup (pv 0) pe_int (fun _ _ => rfl))) (pa_cons (pe_op op_mod (pe_ix ix_list (pv 1) pe_int (fun _ _ => rfl)) (pe_ix ix_tup (pv 0) pe_int (fun _ _ => rfl))) pa_nil))))
      (pss_cons (ps_set (i := 3) sc_walk.nd rfl (.inl rfl) (pe_tup (pa_cons (pe_tup (pa_cons pe_int (pa_cons pe_int pa_nil))) (pa_cons (pe_tup (pa_cons pe_int (pa_cons pe_int pa_nil))) (pa_cons (pe_tup (pa_cons pe_int (pa_cons (pe_un un_neg pe_int) pa_nil))) (pa_cons (pe_tup (pa_cons (pe_un un_neg pe_int) (pa_cons pe_int pa_nil))) pa_nil))))))
      (pss_cons (ps_par (i := 4) (j := 5) (by rfl) sc_walk.nd rfl rfl (by decide) rfl rfl (pa_cons (pe_lst (pa_cons (pv 2) pa_nil)) (pa_cons pe_int pa_nil)) (by rfl))
      (pss_cons (ps_set (i := 6) sc_walk.nd rfl (.inr rfl) (pe_tup (pa_cons (pe_ix ix_tup (pv 2) pe_int (fun _ _ => rfl)) (pa_cons (pe_op op_add (pe_ix ix_tup (pv 2) pe_int (fun _ _ => rfl)) pe_int) pa_nil))))
      (pss_cons (ps_while (passes_of rfl) (pt_cmpR (op_neD hr.units) (pv 6) (pv 2) (nomark _)) (pss_cons (ps_expr (pe_bm PySem.F.plainAttrs_list PySem.F.slot_list_append PySem.F.type_list_append mt_append (pv 4) (pa_cons (pv 6) pa_nil)))
      (pss_cons (ps_set (i := 7) sc_walk.nd rfl (.inr rfl) (pe_op op_mod (pe_op op_add (pv 5) pe_int) pe_int))
      (pss_cons (ps_set (i := 5) sc_walk.nd rfl (.inl rfl) (pe_ix ix_list (pe_lc (own := [("way", 8)]) (g := (gName 8)) (tt := (tAnd (tTest (tOp rNe (tVar 8) (tVar 7))) (tB (tCall (sp_side_ahead K) [] E0 (tCons (tVar 0) (tCons (tVar 1) (tCons (tVar 6) (tCons (tVar 8) tNil)))))))) (te := (tVar 8)) rfl sc_walk.nd (pi_range1 rfl T.n_range (pa_cons pe_int pa_nil)) (blkOk_by (own := [("way", 8)]) (by kernel_rfl)) (fun _ _ _ _ _ => (pg_name (i := 8) sc_walk.nd rfl (.inl rfl))) (fun _ _ _ _ _ => (pts_one (PW.pt (pw_and (pt_cmpR op_ne (pv 8) (pv 7) (nomark _)) (pw_and1 (pt_val (pe_call (ok_side_ahead T) (hr.mono (by decide)) rfl T.g_side_ahead T.F_side_ahead.kp T.b_side_ahead .nil pass0 (pa_cons (pv 0) (pa_cons (pv 1) (pa_cons (pv 6) (pa_cons (pv 8) pa_nil))))))))))) (fun _ _ _ _ _ => (pv 8))) pe_int (fun _ _ => rfl)))
      (pss_one (ps_set (i := 6) sc_walk.nd rfl (.inr rfl) (pe_tup (pa_cons (pe_op op_add (pe_ix ix_tup (pv 6) pe_int (fun _ _ => rfl)) (pe_ix ix_tup (pe_ix ix_tup (pv 3) (pv 5) (fun _ _ => rfl)) pe_int (fun _ _ => rfl))) (pa_cons (pe_op op_add (pe_ix ix_tup (pv 6) pe_int (fun _ _ => rfl)) (pe_ix ix_tup (pe_ix ix_tup (pv 3) (pv 5) (fun _ _ => rfl)) pe_int (fun _ _ => rfl))) pa_nil)))))))))
      (pss_one (ps_ret (pv 4)))))))))))
set_option maxHeartbeats 4000000 in
theorem ok_check_clues (T : Tx K mg) : FnOk P w K mg base (L2.CX P w) 2 T.f_check_clues T.fd_check_clues ["clues"] (sp_check_clues K T.C) := by
  refine T.F_check_clues.okX sc_check_clues (fun vs H Q E h => by obtain ⟨_, rfl, _⟩ := h; rfl) (fun cdv A outer s H vs Q E hr h => ⟨t_check_clues K T.C E, ?_, pure_check_clues rfl h⟩)
  exact (pss_cons (ps_if (PW.pt (pw_or (pt_not (pt_val (pe_callB call_isi (by rfl) T.n_isinstance (by decide +kernel) (pa_cons (pv 0) (pa_cons (pe_bltn (v := .ty "list") (by rfl) T.n_list (by decide +kernel) rfl) pa_nil))))) (pw_or (pt_not (pt_chain op_le op_le pe_int (pe_callB call_len_seq (by rfl) T.n_len (by decide +kernel) (pa_cons (pv 0) pa_nil)) (pe_glob rfl T.g_MOST ⟨_, rfl⟩))) (pw_or1 (pt_not (pt_val (pe_callB (cr_all rfl) (by rfl) T.n_all (by decide +kernel) (pa_cons (pe_lc (own := [("row", 2)]) (g := (gName 2)) (tt := tYes) (te := (tCB (rIsi K) (tCons (tVar 2) (tCons (tC (.ty "list")) tNil)))) rfl sc_check_clues.nd (pi_list (pv 0)) (blkOk_by (own := [("row", 2)]) (by kernel_rfl)) (fun _ _ _ _ _ => (pg_name (i := 2) sc_check_clues.nd rfl (.inl rfl))) (fun _ _ _ _ _ => pts_nil) (fun _ _ _ _ _ => (pe_callB call_isi (by rfl) T.n_isinstance (by decide +kernel) (pa_cons (pv 2) (pa_cons (pe_bltn (v := .ty "list") (by rfl) T.n_list (by decide +kernel) rfl) pa_nil))))) pa_nil)))))))) (pss_one (ps_raise rfl (takes_of rfl rfl rfl rfl) (pmk_own PySem.F.excBase_ValueError T.x_BadClues T.g_BadClues T.k_BadClues (raises_own T.e_BadClues T.y_BadClues) (by rfl)))) pss_nil)
      (pss_cons (ps_set (i := 1) sc_check_clues.nd rfl (.inr rfl) (pe_callB call_len_seq (by rfl) T.n_len (by decide +kernel) (pa_cons (pe_ix ix_list (pv 0) pe_int (fun _ _ => rfl)) pa_nil)))
      (pss_cons (ps_if (PW.pt (pw_or (pt_not (pt_chain op_le op_le pe_int (pv 1) (pe_glob rfl T.g_MOST ⟨_, rfl⟩))) (pw_or (pt_cmpR op_gt (pe_op op_mul (pe_callB call_len_seq (by rfl) T.n_len (by decide +kernel) (pa_cons (pv 0) pa_nil)) (pv 1)) (pe_glob rfl T.g_FEW ⟨_, rfl⟩) (nomark _)) (pw_or1 (pt_not (pt_val (pe_callB (cr_all rfl) (by rfl) T.n_all (by decide +kernel) (pa_cons (pe_lc (own := [("row", 2)]) (g := (gName 2)) (tt := tYes) (te := (tOp rEq (tCB (rLenS K) (tCons (tVar 2) tNil)) (tVar 1))) rfl sc_check_clues.nd (pi_list (pv 0)) (blkOk_by (own := [("row", 2)]) (by kernel_rfl)) (fun _ _ _ _ _ => (pg_name (i := 2) sc_check_clues.nd rfl (.inl rfl))) (fun _ _ _ _ _ => pts_nil) (fun _ _ _ _ _ => (pe_cmpR op_eq (pe_callB call_len_seq (by rfl) T.n_len (by decide +kernel) (pa_cons (pv 2) pa_nil)) (pv 1) (nomark _)))) pa_nil)))))))) (pss_one (ps_raise rfl (takes_of rfl rfl rfl rfl) (pmk_own PySem.F.excBase_ValueError T.x_BadClues T.g_BadClues T.k_BadClues (raises_own T.e_BadClues T.y_BadClues) (by rfl)))) pss_nil)
      (pss_one (ps_if (pt_not (pt_val (pe_callB (cr_all rfl) (by rfl) T.n_all (by decide +kernel) (pa_cons (pe_lc (own := [("row", 2)]) (g := (gName 2)) (tt := tYes) (te := (tCB (rAll K) (tCons (tLc (iList K (tVar 2)) (gName 3) tYes (tAndV (tCall (sp_is_whole K) [] E0 (tCons (tVar 3) tNil)) (tChain oLe oLe (tUn oNeg (tC (.int 1))) (tVar 3) (tC (.int 4)))) [3]) tNil))) rfl sc_check_clues.nd (pi_list (pv 0)) (blkOk_by (own := [("row", 2)]) (by kernel_rfl)) (fun _ _ _ _ _ => (pg_name (i := 2) sc_check_clues.nd rfl (.inl rfl))) (fun _ _ _ _ _ => pts_nil) (fun _ _ _ _ _ => (pe_callB (cr_all rfl) (by rfl) T.n_all (by decide +kernel) (pa_cons (pe_lc (own := [("clue", 3)]) (g := (gName 3)) (tt := tYes) (te := (tAndV (tCall (sp_is_whole K) [] E0 (tCons (tVar 3) tNil)) (tChain oLe oLe (tUn oNeg (tC (.int 1))) (tVar 3) (tC (.int 4))))) rfl sc_check_clues.nd (pi_list (pv 2)) (blkOk_by (own := [("clue", 3)]) (by kernel_rfl)) (fun _ _ _ _ _ => (pg_name (i := 3) sc_check_clues.nd rfl (.inl rfl))) (fun _ _ _ _ _ => pts_nil) (fun _ _ _ _ _ => (pe_and (pe_call (ok_is_whole T) (hr.mono (by decide)) rfl T.g_is_whole T.F_is_whole.kp T.b_is_whole .nil pass0 (pa_cons (pv 3) pa_nil)) (pe_one (pe_chain op_le op_le (pe_un un_neg pe_int) (pv 3) pe_int))))) pa_nil)))) pa_nil)))) (pss_one (ps_raise rfl (takes_of rfl rfl rfl rfl) (pmk_own PySem.F.excBase_ValueError T.x_BadClues T.g_BadClues T.k_BadClues (raises_own T.e_BadClues T.y_BadClues) (by rfl)))) pss_nil)))))
set_option maxHeartbeats 4000000 in
theorem ok_fits (T : Tx K mg) : FnOk P w K mg base CX0 4 T.f_fits T.fd_fits ["clues", "cells"] (sp_fits K) := by
  refine T.F_fits.ok sc_fits (fun vs H Q E h => by obtain ⟨_, _, _, _, rfl, _⟩ := h; rfl) (fun cdv A outer s H vs Q E hr h => ⟨t_fits K, ?_, pure_fits rfl h⟩)
  exact (pss_cons (ps_set (i := 2) sc_fits.nd rfl (.inl rfl) (pe_call (ok_numbers_of T) (hr.mono (by decide)) rfl T.g_numbers_of T.F_numbers_of.kp T.b_numbers_of .nil pass0 (pa_cons (pe_tup (pa_cons (pe_callB call_len_seq (by rfl) T.n_len (by decide +kernel) (pa_cons (pv 0) pa_nil)) (pa_cons (pe_callB call_len_seq (by rfl) T.n_len (by decide +kernel) (pa_cons (pe_ix ix_list (pv 0) pe_int (fun _ _ => rfl)) pa_nil)) pa_nil))) (pa_cons (pv 1) pa_nil))))
      (pss_cons (ps_for PassesOwn.never rfl (pi_zip (by rfl) T.n_zip (pa_cons (pv 0) (pa_cons (pv 2) pa_nil))) (pg_tup rfl (pgs_cons (pg_name (i := 3) sc_fits.nd rfl (.inl rfl)) (pgs_cons (pg_name (i := 4) sc_fits.nd rfl (.inl rfl)) pgs_nil))) (pss_one (ps_if (pt_val (pe_callB (cr_any rfl) (by rfl) T.n_any (by decide +kernel) (pa_cons (pe_lc (own := [("clue", 5), ("number", 6)]) (g := (gTup K 2 (gCons (gName 5) (gCons (gName 6) gNil)))) (tt := tYes) (te := (tAndV (tOp oGe (tVar 5) (tC (.int 0))) (tOp rNe (tVar 5) (tVar 6)))) rfl sc_fits.nd (pi_zip (by rfl) T.n_zip (pa_cons (pv 3) (pa_cons (pv 4) pa_nil))) (blkOk_by (own := [("clue", 5), ("number", 6)]) (by kernel_rfl)) (fun _ _ _ _ _ => (pg_tup rfl (pgs_cons (pg_name (i := 5) sc_fits.nd rfl (.inl rfl)) (pgs_cons (pg_name (i := 6) sc_fits.nd rfl (.inl rfl)) pgs_nil)))) (fun _ _ _ _ _ => pts_nil) (fun _ _ _ _ _ => (pe_and (pe_cmpR op_ge (pv 5) pe_int (nomark _)) (pe_one (pe_cmpR op_ne (pv 5) (pv 6) (nomark _)))))) pa_nil))) (pss_one (ps_ret pe_bl)) pss_nil)))
      (pss_one (ps_ret pe_bl))))
set_option maxHeartbeats 4000000 in
theorem ok_fitting_of (T : Tx K mg) : FnOk P w K mg base CX0 7 T.f_fitting_of T.fd_fitting_of ["clues"] (sp_fitting_of K) := by
  refine T.F_fitting_of.ok sc_fitting_of (fun vs H Q E h => by obtain ⟨_, _, rfl, _⟩ := h; rfl) (fun cdv A outer s H vs Q E hr h => ⟨t_fitting_of K, ?_, pure_fitting_of rfl h⟩)
  exact (pss_one (ps_ret (pe_lc (own := [("cells", 1)]) (g := (gName 1)) (tt := (tB (tCall (sp_fits K) [] E0 (tCons (tVar 0) (tCons (tVar 1) tNil))))) (te := (tVar 1)) rfl sc_fitting_of.nd (pi_list (pe_call (ok_all_rings T) (hr.mono (by decide)) rfl T.g_all_rings T.F_all_rings.kp T.b_all_rings .nil pass0 (pa_cons (pe_tup (pa_cons (pe_callB call_len_seq (by rfl) T.n_len (by decide +kernel) (pa_cons (pv 0) pa_nil)) (pa_cons (pe_callB call_len_seq (by rfl) T.n_len (by decide +kernel) (pa_cons (pe_ix ix_list (pv 0) pe_int (fun _ _ => rfl)) pa_nil)) pa_nil))) pa_nil))) (blkOk_by (own := [("cells", 1)]) (by kernel_rfl)) (fun _ _ _ _ _ => (pg_name (i := 1) sc_fitting_of.nd rfl (.inl rfl))) (fun _ _ _ _ _ => (pts_one (pt_val (pe_call (ok_fits T) (hr.mono (by decide)) rfl T.g_fits T.F_fits.kp T.b_fits .nil pass0 (pa_cons (pv 0) (pa_cons (pv 1) pa_nil)))))) (fun _ _ _ _ _ => (pv 1)))))
set_option maxHeartbeats 4000000 in
theorem ok_One_init (T : Tx K mg) : FnOk P w K mg base CX0 1 T.f_One_init T.fd_One_init ["self", "cells"] (sp_One_init K T.C) := by
  refine T.F_One_init.ok sc_One_init (fun vs H Q E h => by obtain ⟨_, _, _, _, rfl, _⟩ := h; rfl) (fun cdv A outer s H vs Q E hr h => ⟨t_One_init K, ?_, pure_One_init rfl T.cf_One h⟩)
  exact (pss_one (ps_fld (pv 0) (pe_callTy call_list_of (by rfl) T.n_list (by decide +kernel) (pa_cons (pv 1) pa_nil)) rfl))
set_option maxHeartbeats 4000000 in
theorem ok_Two_init (T : Tx K mg) : FnOk P w K mg base CX0 1 T.f_Two_init T.fd_Two_init ["self", "one", "other"] (sp_Two_init K T.C) := by
  refine T.F_Two_init.ok sc_Two_init (fun vs H Q E h => by obtain ⟨_, _, _, _, _, _, rfl, _⟩ := h; rfl) (fun cdv A outer s H vs Q E hr h => ⟨t_Two_init K, ?_, pure_Two_init rfl T.cf_Two h⟩)
  exact (pss_cons (ps_fld (pv 0) (pe_callTy call_list_of (by rfl) T.n_list (by decide +kernel) (pa_cons (pv 1) pa_nil)) rfl)
      (pss_one (ps_fld (pv 0) (pe_callTy call_list_of (by rfl) T.n_list (by decide +kernel) (pa_cons (pv 2) pa_nil)) rfl)))
set_option maxHeartbeats 4000000 in
theorem ok_told (T : Tx K mg) : FnOk P w K mg base (L2.CX P w) 8 T.f_told T.fd_told ["clues"] (sp_told K T.C) := by
  refine T.F_told.okX sc_told (fun vs H Q E h => by obtain ⟨_, rfl, _⟩ := h; rfl) (fun cdv A outer s H vs Q E hr h => ⟨t_told K T.C E, ?_, pure_told rfl h⟩)
  exact (pss_cons (ps_expr (pe_call (ok_check_clues T) (hr.mono (by decide)) rfl T.g_check_clues T.F_check_clues.kp T.b_check_clues .nil (passes_call (takes_of rfl rfl rfl rfl) (fun _ _ _ _ h => h)) (pa_cons (pv 0) pa_nil)))
      (pss_cons (ps_set (i := 1) sc_told.nd rfl (.inl rfl) (pe_call (ok_fitting_of T) (hr.mono (by decide)) rfl T.g_fitting_of T.F_fitting_of.kp T.b_fitting_of .nil pass0 (pa_cons (pv 0) pa_nil)))
      (pss_cons (ps_if (pt_cmpR (op_eqD hr.units) (pv 1) (pe_lst pa_nil) (nomark _)) (pss_one (ps_ret (pe_bare T.m_Never (by rfl) T.g_Never))) pss_nil)
      (pss_one (ps_ret (pe_ifExp (pt_cmpR op_eq (pe_callB call_len_seq (by rfl) T.n_len (by decide +kernel) (pa_cons (pv 1) pa_nil)) pe_int (nomark _)) (pe_make T.m_One (ok_One_init T) (hr.mono (by decide)) (by rfl) T.g_One T.b_One_init .nil pass0 (pa_cons (pe_ix ix_list (pv 1) pe_int (fun _ _ => rfl)) pa_nil)) (pe_make T.m_Two (ok_Two_init T) (hr.mono (by decide)) (by rfl) T.g_Two T.b_Two_init .nil pass0 (pa_cons (pe_ix ix_list (pv 1) pe_int (fun _ _ => rfl)) (pa_cons (pe_ix ix_list (pv 1) pe_int (fun _ _ => rfl)) pa_nil)))))))))
set_option maxHeartbeats 4000000 in
theorem ok_fitting (T : Tx K mg) : FnOk P w K mg base (L2.CX P w) 8 T.f_fitting T.fd_fitting ["clues"] (sp_fitting K T.C) := by
  refine T.F_fitting.okX sc_fitting (fun vs H Q E h => by obtain ⟨_, rfl, _⟩ := h; rfl) (fun cdv A outer s H vs Q E hr h => ⟨t_fitting K T.C E, ?_, pure_fitting rfl h⟩)
  exact (pss_cons (ps_expr (pe_call (ok_check_clues T) (hr.mono (by decide)) rfl T.g_check_clues T.F_check_clues.kp T.b_check_clues .nil (passes_call (takes_of rfl rfl rfl rfl) (fun _ _ _ _ h => h)) (pa_cons (pv 0) pa_nil)))
      (pss_one (ps_ret (pe_call (ok_fitting_of T) (hr.mono (by decide)) rfl T.g_fitting_of T.F_fitting_of.kp T.b_fitting_of .nil pass0 (pa_cons (pv 0) pa_nil)))))
set_option maxHeartbeats 4000000 in
theorem ok_Split_init (T : Tx K mg) : FnOk P w K mg base CX0 1 T.f_Split_init T.fd_Split_init ["self", "one", "other"] (sp_Split_init K T.C) := by
  refine T.F_Split_init.ok sc_Split_init (fun vs H Q E h => by obtain ⟨_, _, _, _, rfl, _⟩ := h; rfl) (fun cdv A outer s H vs Q E hr h => ⟨t_Split_init K, ?_, pure_Split_init rfl T.cf_Split h⟩)
  exact (pss_cons (ps_fld (pv 0) (pv 1) rfl)
      (pss_one (ps_fld (pv 0) (pv 2) rfl)))
set_option maxHeartbeats 4000000 in
theorem ok_Hole_init (T : Tx K mg) : FnOk P w K mg base CX0 1 T.f_Hole_init T.fd_Hole_init ["self", "cell"] (sp_Hole_init K T.C) := by
  refine T.F_Hole_init.ok sc_Hole_init (fun vs H Q E h => by obtain ⟨_, _, _, rfl, _⟩ := h; rfl) (fun cdv A outer s H vs Q E hr h => ⟨t_Hole_init K, ?_, pure_Hole_init rfl T.cf_Hole h⟩)
  exact (pss_one (ps_fld (pv 0) (pv 1) rfl))
set_option maxHeartbeats 4000000 in
theorem ok_judged (T : Tx K mg) : FnOk P w K mg base (L2.CX P w) 5 T.f_judged T.fd_judged ["grid", "cells"] (sp_judged K T.C) := by
  refine T.F_judged.okX sc_judged (fun vs H Q E h => by obtain ⟨_, _, rfl, _⟩ := h; rfl) (fun cdv A outer s H vs Q E hr h => ⟨t_judged K T.C E, ?_, pure_judged rfl h⟩)
  exact (pss_cons (ps_expr (pe_call (ok_check_grid T) (hr.mono (by decide)) rfl T.g_check_grid T.F_check_grid.kp T.b_check_grid .nil (passes_call (takes_of rfl rfl rfl rfl) (fun _ _ _ _ h => h)) (pa_cons (pv 0) pa_nil)))
      (pss_cons (ps_expr (pe_call (ok_check_cells T) (hr.mono (by decide)) rfl T.g_check_cells T.F_check_cells.kp T.b_check_cells .nil (passes_call (takes_of rfl rfl rfl rfl) (fun _ _ _ _ h => h)) (pa_cons (pv 0) (pa_cons (pv 1) pa_nil))))
      (pss_cons (ps_set (i := 2) sc_judged.nd rfl (.inr rfl) (pe_call (ok_spread T) (hr.mono (by decide)) rfl T.g_spread T.F_spread.kp T.b_spread .nil pass0 (pa_cons (pv 0) (pa_cons (pe_ix ix_list (pv 1) pe_int (fun _ _ => rfl)) (pa_cons (pv 1) pa_nil)))))
      (pss_cons (ps_if (pt_cmpR op_lt (pe_callB call_len_seq (by rfl) T.n_len (by decide +kernel) (pa_cons (pv 2) pa_nil)) (pe_callB call_len_seq (by rfl) T.n_len (by decide +kernel) (pa_cons (pv 1) pa_nil)) (nomark _)) (pss_one (ps_ret (pe_make T.m_Split (ok_Split_init T) (hr.mono (by decide)) (by rfl) T.g_Split T.b_Split_init .nil pass0 (pa_cons (pe_ix ix_list (pv 1) pe_int (fun _ _ => rfl)) (pa_cons (pe_ix ix_list (pe_lc (own := [("cell", 4)]) (g := (gName 4)) (tt := (tTest (tOp (rIn K true) (tVar 4) (tVar 2)))) (te := (tVar 4)) rfl sc_judged.nd (pi_list (pv 1)) (blkOk_by (own := [("cell", 4)]) (by kernel_rfl)) (fun _ _ _ _ _ => (pg_name (i := 4) sc_judged.nd rfl (.inl rfl))) (fun _ _ _ _ _ => (pts_one (pt_cmpR op_notIn_seq (pv 4) (pv 2) (by rfl)))) (fun _ _ _ _ _ => (pv 4))) pe_int (fun _ _ => rfl)) pa_nil))))) pss_nil)
      (pss_cons (ps_set (i := 3) sc_judged.nd rfl (.inl rfl) (pe_call (ok_first_inner T) (hr.mono (by decide)) rfl T.g_first_inner T.F_first_inner.kp T.b_first_inner .nil pass0 (pa_cons (pv 0) (pa_cons (pv 1) pa_nil))))
      (pss_one (ps_ret (pe_ifExp (pt_cmpR op_isN1 (pv 3) pe_non (nomark _)) (pe_bare T.m_Ring (by rfl) T.g_Ring) (pe_make T.m_Hole (ok_Hole_init T) (hr.mono (by decide)) (by rfl) T.g_Hole T.b_Hole_init .nil pass0 (pa_cons (pv 3) pa_nil))))))))))
set_option maxHeartbeats 4000000 in
theorem ok_l_sound (T : Tx K mg) : FnOk P w K mg base CX0 1 T.f_l_sound T.fd_l_sound ["_law_thing"] (sp_l_sound K) := by
  refine T.F_l_sound.ok sc_l_sound (fun vs H Q E h => by obtain ⟨_, _, rfl, _⟩ := h; rfl) (fun cdv A outer s H vs Q E hr h => ⟨t_l_sound K, ?_, pure_l_sound rfl rfl h⟩)
  exact (pss_cons (ps_set (i := 1) sc_l_sound.nd rfl (.inl rfl) (pe_lst (pa_cons (pv 0) pa_nil)))
      (pss_cons (ps_while PassesOwn.never (pt_cmpR (op_neD hr.units) (pv 1) (pe_lst pa_nil) (nomark _)) (pss_cons (ps_set (i := 2) sc_l_sound.nd rfl (.inl rfl) (pe_bm0 PySem.F.plainAttrs_list PySem.F.slot_list_pop PySem.F.type_list_pop mt_pop (pv 1)))
      (pss_one (ps_if (PW.pt (pw_or (pt_val (pe_callB call_isi (by rfl) T.n_isinstance (by decide +kernel) (pa_cons (pv 2) (pa_cons (pe_bltn (v := .ty "list") (by rfl) T.n_list (by decide +kernel) rfl) pa_nil)))) (pw_or1 (pt_val (pe_callB call_isi (by rfl) T.n_isinstance (by decide +kernel) (pa_cons (pv 2) (pa_cons (pe_bltn (v := .ty "tuple") (by rfl) T.n_tuple (by decide +kernel) rfl) pa_nil))))))) (pss_one (ps_expr (pe_bm PySem.F.plainAttrs_list PySem.F.slot_list_extend PySem.F.type_list_extend mt_extend (pv 1) (pa_cons (pe_callTy call_list_of (by rfl) T.n_list (by decide +kernel) (pa_cons (pv 2) pa_nil)) pa_nil)))) (pss_one (ps_if (PW.pt (pw_or (pt_val (pe_callB call_isi (by rfl) T.n_isinstance (by decide +kernel) (pa_cons (pv 2) (pa_cons (pe_bltn (v := .ty "bool") (by rfl) T.n_bool (by decide +kernel) rfl) pa_nil)))) (pw_or1 (PW.pt (pw_and (pt_cmpR op_notN1 (pv 2) pe_non (nomark _)) (pw_and (pt_not (pt_val (pe_callB call_isi (by rfl) T.n_isinstance (by decide +kernel) (pa_cons (pv 2) (pa_cons (pe_bltn (v := .ty "int") (by rfl) T.n_int (by decide +kernel) rfl) pa_nil))))) (pw_and1 (pt_not (pt_val (pe_callB call_isi (by rfl) T.n_isinstance (by decide +kernel) (pa_cons (pv 2) (pa_cons (pe_bltn (v := .ty "str") (by rfl) T.n_str (by decide +kernel) rfl) pa_nil)))))))))))) (pss_one (ps_ret pe_bl)) pss_nil))))))
      (pss_one (ps_ret pe_bl))))
set_option maxHeartbeats 4000000 in
theorem ok_One_shows (T : Tx K mg) : FnOk P w K mg base CX0 8 T.f_One_shows T.fd_One_shows ["self", "clues"] (sp_One_shows K T.C) := by
  refine T.F_One_shows.ok sc_One_shows (fun vs H Q E h => by obtain ⟨_, _, _, _, _, _, rfl, _⟩ := h; rfl) (fun cdv A outer s H vs Q E hr h => ⟨t_One_shows K, ?_, pure_One_shows rfl T.cf_One h⟩)
  exact (pss_one (ps_ret (pe_cmpR (op_eqD hr.units) (pe_call (ok_fitting_of T) (hr.mono (by decide)) rfl T.g_fitting_of T.F_fitting_of.kp T.b_fitting_of .nil pass0 (pa_cons (pv 1) pa_nil)) (pe_lst (pa_cons (pe_fld (pv 0) rfl) pa_nil)) (nomark _))))
set_option maxHeartbeats 4000000 in
theorem ok_Two_shows (T : Tx K mg) : FnOk P w K mg base CX0 8 T.f_Two_shows T.fd_Two_shows ["self", "clues"] (sp_Two_shows K T.C) := by
  refine T.F_Two_shows.ok sc_Two_shows (fun vs H Q E h => by obtain ⟨_, _, _, _, _, _, _, _, rfl, _⟩ := h; rfl) (fun cdv A outer s H vs Q E hr h => ⟨t_Two_shows K, ?_, pure_Two_shows rfl T.cf_Two h⟩)
  exact (pss_cons (ps_set (i := 2) sc_Two_shows.nd rfl (.inl rfl) (pe_call (ok_fitting_of T) (hr.mono (by decide)) rfl T.g_fitting_of T.F_fitting_of.kp T.b_fitting_of .nil pass0 (pa_cons (pv 1) pa_nil)))
      (pss_one (ps_ret (pe_and (pe_cmpR (op_neD hr.units) (pe_fld (pv 0) rfl) (pe_fld (pv 0) rfl) (nomark _)) (pe_and (pe_cmpR (op_inD (hu65 hr)) (pe_fld (pv 0) rfl) (pv 2) (by rfl)) (pe_one (pe_cmpR (op_inD (hu65 hr)) (pe_fld (pv 0) rfl) (pv 2) (by rfl))))))))
set_option maxHeartbeats 4000000 in
theorem ok_Never_shows (T : Tx K mg) : FnOk P w K mg base CX0 8 T.f_Never_shows T.fd_Never_shows ["self", "clues"] (sp_Never_shows K) := by
  refine T.F_Never_shows.ok sc_Never_shows (fun vs H Q E h => by obtain ⟨_, _, _, rfl, _⟩ := h; rfl) (fun cdv A outer s H vs Q E hr h => ⟨t_Never_shows K, ?_, pure_Never_shows rfl h⟩)
  exact (pss_one (ps_ret (pe_cmpR (op_eqD hr.units) (pe_call (ok_fitting_of T) (hr.mono (by decide)) rfl T.g_fitting_of T.F_fitting_of.kp T.b_fitting_of .nil pass0 (pa_cons (pv 1) pa_nil)) (pe_lst pa_nil) (nomark _))))
set_option maxHeartbeats 4000000 in
theorem ok_law (T : Tx K mg) : FnOk P w K mg base CX0 9 T.f_law T.fd_law ["_law_script"] (sp_law K) := by
  refine T.F_law.ok sc_law (fun vs H Q E h => by obtain ⟨_, _, rfl, _⟩ := h; rfl) (fun cdv A outer s H vs Q E hr h => ⟨t_law K T.C, ?_, pure_law rfl rfl T.cf_One T.cf_Two T.cf_Split T.cf_Hole T.ci_One T.ci_Two T.ci_Never T.ki_One_One T.ki_Two_One T.ki_Never_One T.ki_One_Two T.ki_Two_Two T.ki_Never_Two h⟩)
  exact (pss_cons (ps_set (i := 1) sc_law.nd rfl (.inl rfl) (pe_callB call_abs (by rfl) T.n_abs (by decide +kernel) (pa_cons (pe_callB (cr_sum rfl) (by rfl) T.n_sum (by decide +kernel) (pa_cons (pe_slice sl_list (pv 0) po_none (po_some pe_int)) pa_nil)) pa_nil)))
      (pss_cons (ps_set (i := 2) sc_law.nd rfl (.inl rfl) (pe_tup (pa_cons (pe_op op_add pe_int (pe_op op_mod (pv 1) pe_int)) (pa_cons (pe_op op_add pe_int (pe_op op_mod (pe_op op_fdiv (pv 1) pe_int) pe_int)) pa_nil))))
      (pss_cons (ps_set (i := 3) sc_law.nd rfl (.inl rfl) (pe_op op_mul (pe_ix ix_tup (pv 2) pe_int (fun _ _ => rfl)) (pe_ix ix_tup (pv 2) pe_int (fun _ _ => rfl))))
      (pss_cons (ps_set (i := 4) sc_law.nd rfl (.inl rfl) (pe_call (ok_rings T) (hr.mono (by decide)) rfl T.g_rings T.F_rings.kp T.b_rings .nil passL (pa_cons (pv 2) pa_nil)))
      (pss_cons (ps_set (i := 5) sc_law.nd rfl (.inl rfl) (pe_ix ix_list (pv 4) (pe_op op_mod (pe_op op_fdiv (pv 1) pe_int) (pe_callB call_len_seq (by rfl) T.n_len (by decide +kernel) (pa_cons (pv 4) pa_nil))) (fun _ _ => rfl)))
      (pss_cons (ps_set (i := 6) sc_law.nd rfl (.inl rfl) (pe_lst (pa_cons (pv 4) (pa_cons (pe_call (ok_numbers T) (hr.mono (by decide)) rfl T.g_numbers T.F_numbers.kp T.b_numbers .nil passL (pa_cons (pv 2) (pa_cons (pv 5) pa_nil))) (pa_cons (pe_call (ok_walk T) (hr.mono (by decide)) rfl T.g_walk T.F_walk.kp T.b_walk .nil passL (pa_cons (pv 2) (pa_cons (pv 5) pa_nil))) (pa_cons (pe_call (ok_numbers T) (hr.mono (by decide)) rfl T.g_numbers T.F_numbers.kp T.b_numbers .nil passL (pa_cons (pe_tup (pa_cons pe_int (pa_cons pe_int pa_nil))) (pa_cons (pe_lst (pa_cons pe_int pa_nil)) pa_nil))) pa_nil))))))
      (pss_cons (ps_set (i := 6) sc_law.nd rfl (.inl rfl) (pe_op op_cat (pv 6) (pe_lst (pa_cons (pe_call (ok_rings T) (hr.mono (by decide)) rfl T.g_rings T.F_rings.kp T.b_rings .nil passL (pa_cons (pe_tup (pa_cons pe_int (pa_cons pe_int pa_nil))) pa_nil)) (pa_cons (pe_call (ok_rings T) (hr.mono (by decide)) rfl T.g_rings T.F_rings.kp T.b_rings .nil passL (pa_cons (pe_tup (pa_cons pe_int (pa_cons pe_int pa_nil))) pa_nil)) (pa_cons (pe_call (ok_walk T) (hr.mono (by decide)) rfl T.g_walk T.F_walk.kp T.b_walk .nil passL (pa_cons (pe_tup (pa_cons pe_int (pa_cons pe_int pa_nil))) (pa_cons (pe_lst (pa_cons pe_int pa_nil)) pa_nil))) pa_nil))))))
      (pss_cons (ps_for PassesOwn.never rfl (pi_tup (pe_tup (pa_cons (pe_op op_rep (pe_lst (pa_cons (pe_op op_rep (pe_lst (pa_cons (pe_un un_neg pe_int) pa_nil)) (pe_ix ix_tup (pv 2) pe_int (fun _ _ => rfl))) pa_nil)) (pe_ix ix_tup (pv 2) pe_int (fun _ _ => rfl))) (pa_cons (pe_call (ok_numbers T) (hr.mono (by decide)) rfl T.g_numbers T.F_numbers.kp T.b_numbers .nil passL (pa_cons (pv 2) (pa_cons (pv 5) pa_nil))) (pa_cons (pe_lst (pa_cons (pe_lst (pa_cons pe_int (pa_cons pe_int (pa_cons (pe_un un_neg pe_int) pa_nil)))) pa_nil)) (pa_cons (pe_lst (pa_cons (pe_lst (pa_cons (pe_un un_neg pe_int) (pa_cons (pe_un un_neg pe_int) pa_nil))) pa_nil)) pa_nil)))))) (pg_name (i := 7) sc_law.nd rfl (.inl rfl)) (pss_cons (ps_setLc (i := 8) (own := [("_law_row", 12)]) (g := (gName 12)) (tt := tYes) (te := (tCB (rListS K) (tCons (tVar 12) tNil))) rfl sc_law.nd rfl rfl (sw_true rfl rfl rfl (by decide +kernel)) (pi_list (pv 7)) (blkOk_by (own := [("_law_row", 12)]) (by kernel_rfl)) (fun _ _ _ _ _ => (pg_name (i := 12) sc_law.nd rfl (.inl rfl))) (fun _ _ _ _ _ => pts_nil) (fun _ _ _ _ _ => (pe_callTy call_list_of (by rfl) T.n_list (by decide +kernel) (pa_cons (pv 12) pa_nil))))
      (pss_cons (ps_set (i := 9) sc_law.nd rfl (.inl rfl) (pe_call (ok_told T) (hr.mono (by decide)) rfl T.g_told T.F_told.kp T.b_told .nil passL (pa_cons (pv 8) pa_nil)))
      (pss_cons (ps_expr (pe_bm PySem.F.plainAttrs_list PySem.F.slot_list_append PySem.F.type_list_append mt_append (pv 6) (pa_cons (pe_call (ok_fitting T) (hr.mono (by decide)) rfl T.g_fitting T.F_fitting.kp T.b_fitting .nil passL (pa_cons (pv 8) pa_nil)) pa_nil)))
      (pss_cons (ps_if (pt_val (pe_callB call_isi (by rfl) T.n_isinstance (by decide +kernel) (pa_cons (pv 9) (pa_cons (pe_glob rfl T.g_One rfl) pa_nil)))) (pss_one (ps_expr (pe_bm PySem.F.plainAttrs_list PySem.F.slot_list_append PySem.F.type_list_append mt_append (pv 6) (pa_cons (pe_fld (pv 9) rfl) pa_nil)))) pss_nil)
      (pss_cons (ps_if (pt_val (pe_callB call_isi (by rfl) T.n_isinstance (by decide +kernel) (pa_cons (pv 9) (pa_cons (pe_glob rfl T.g_Two rfl) pa_nil)))) (pss_one (ps_set (i := 6) sc_law.nd rfl (.inl rfl) (pe_op op_cat (pv 6) (pe_lst (pa_cons (pe_fld (pv 9) rfl) (pa_cons (pe_fld (pv 9) rfl) pa_nil)))))) pss_nil)
      (pss_one (ps_if (pt_not (pt_val (pe_callB call_isi (by rfl) T.n_isinstance (by decide +kernel) (pa_cons (pe_alt (pe_meth (pv 9) T.cl_One T.mt_One_shows (ok_One_shows T) (hr.mono (by decide)) T.b_One_shows .nil pass0 (pa_cons (pv 8) pa_nil)) (pe_alt (pe_meth (pv 9) T.cl_Two T.mt_Two_shows (ok_Two_shows T) (hr.mono (by decide)) T.b_Two_shows .nil pass0 (pa_cons (pv 8) pa_nil)) (pe_meth (pv 9) T.cl_Never T.mt_Never_shows (ok_Never_shows T) (hr.mono (by decide)) T.b_Never_shows .nil pass0 (pa_cons (pv 8) pa_nil)))) (pa_cons (pe_bltn (v := .ty "bool") (by rfl) T.n_bool (by decide +kernel) rfl) pa_nil))))) (pss_one (ps_ret pe_bl)) pss_nil))))))))
      (pss_cons (ps_par (i := 10) (j := 11) (by rfl) sc_law.nd rfl rfl (by decide) rfl rfl (pa_cons (pe_call (ok_judged T) (hr.mono (by decide)) rfl T.g_judged T.F_judged.kp T.b_judged .nil passL (pa_cons (pe_tup (pa_cons pe_int (pa_cons pe_int pa_nil))) (pa_cons (pe_lst (pa_cons pe_int (pa_cons pe_int pa_nil))) pa_nil))) (pa_cons (pe_call (ok_judged T) (hr.mono (by decide)) rfl T.g_judged T.F_judged.kp T.b_judged .nil passL (pa_cons (pe_tup (pa_cons pe_int (pa_cons pe_int pa_nil))) (pa_cons (pe_lst (pa_cons pe_int (pa_cons pe_int (pa_cons pe_int (pa_cons pe_int (pa_cons pe_int (pa_cons pe_int (pa_cons pe_int (pa_cons pe_int pa_nil))))))))) pa_nil))) pa_nil)) (by rfl))
      (pss_one (ps_ret (pe_and (pe_call (ok_l_sound T) (hr.mono (by decide)) rfl T.g_l_sound T.F_l_sound.kp T.b_l_sound .nil pass0 (pa_cons (pe_op op_cat (pv 6) (pe_lst (pa_cons (pe_fld (pv 10) rfl) (pa_cons (pe_fld (pv 10) rfl) (pa_cons (pe_fld (pv 11) rfl) (pa_cons (pv 3) pa_nil)))))) pa_nil)) (pe_one (pe_cmpR (op_eqD hr.units) (pe_call (ok_fitting T) (hr.mono (by decide)) rfl T.g_fitting T.F_fitting.kp T.b_fitting .nil passL (pa_cons (pe_lst (pa_cons (pe_lst (pa_cons pe_int (pa_cons pe_int (pa_cons (pe_un un_neg pe_int) pa_nil)))) pa_nil)) pa_nil)) (pe_lst (pa_cons (pe_lst (pa_cons pe_int (pa_cons pe_int pa_nil))) pa_nil)) (nomark _)))))))))))))))
end
theorem all_mk {l : PySem.W.OpenLaw} {w : World} {K : PySem.W.Frag} {h : Heap} {mg : Str → Option Value} {fa : Addr} {a_cOne a_cTwo a_cSplit a_cHole a_cNever a_cBadGrid a_cBadCells a_cNoRing a_cBadClues a_cRing : Addr} (X : K.In h) (G : h.Ns mainGlobals mg) (hfa : mg "law" = some (.ref fa))
    {oc_is_whole kV_is_whole dc_is_whole pm_is_whole cd_is_whole ct_is_whole : Value} {od_is_whole an_is_whole : Option Addr} {sl_is_whole : Array (Option Value)} {f_is_whole : Addr}
    {oc_check_grid kV_check_grid dc_check_grid pm_check_grid cd_check_grid ct_check_grid : Value} {od_check_grid an_check_grid : Option Addr} {sl_check_grid : Array (Option Value)} {f_check_grid : Addr}
    {oc_check_few kV_check_few dc_check_few pm_check_few cd_check_few ct_check_few : Value} {od_check_few an_check_few : Option Addr} {sl_check_few : Array (Option Value)} {f_check_few : Addr}
    {oc_beside kV_beside dc_beside pm_beside cd_beside ct_beside : Value} {od_beside an_beside : Option Addr} {sl_beside : Array (Option Value)} {f_beside : Addr}
    {oc_spread kV_spread dc_spread pm_spread cd_spread ct_spread : Value} {od_spread an_spread : Option Addr} {sl_spread : Array (Option Value)} {f_spread : Addr}
    {oc_is_inner kV_is_inner dc_is_inner pm_is_inner cd_is_inner ct_is_inner : Value} {od_is_inner an_is_inner : Option Addr} {sl_is_inner : Array (Option Value)} {f_is_inner : Addr}
    {oc_first_inner kV_first_inner dc_first_inner pm_first_inner cd_first_inner ct_first_inner : Value} {od_first_inner an_first_inner : Option Addr} {sl_first_inner : Array (Option Value)} {f_first_inner : Addr}
    {oc_is_ring kV_is_ring dc_is_ring pm_is_ring cd_is_ring ct_is_ring : Value} {od_is_ring an_is_ring : Option Addr} {sl_is_ring : Array (Option Value)} {f_is_ring : Addr}
    {oc_all_rings kV_all_rings dc_all_rings pm_all_rings cd_all_rings ct_all_rings : Value} {od_all_rings an_all_rings : Option Addr} {sl_all_rings : Array (Option Value)} {f_all_rings : Addr}
    {oc_rings kV_rings dc_rings pm_rings cd_rings ct_rings : Value} {od_rings an_rings : Option Addr} {sl_rings : Array (Option Value)} {f_rings : Addr}
    {oc_check_cells kV_check_cells dc_check_cells pm_check_cells cd_check_cells ct_check_cells : Value} {od_check_cells an_check_cells : Option Addr} {sl_check_cells : Array (Option Value)} {f_check_cells : Addr}
    {oc_sides_of kV_sides_of dc_sides_of pm_sides_of cd_sides_of ct_sides_of : Value} {od_sides_of an_sides_of : Option Addr} {sl_sides_of : Array (Option Value)} {f_sides_of : Addr}
    {oc_numbers_of kV_numbers_of dc_numbers_of pm_numbers_of cd_numbers_of ct_numbers_of : Value} {od_numbers_of an_numbers_of : Option Addr} {sl_numbers_of : Array (Option Value)} {f_numbers_of : Addr}
    {oc_numbers kV_numbers dc_numbers pm_numbers cd_numbers ct_numbers : Value} {od_numbers an_numbers : Option Addr} {sl_numbers : Array (Option Value)} {f_numbers : Addr}
    {oc_side_ahead kV_side_ahead dc_side_ahead pm_side_ahead cd_side_ahead ct_side_ahead : Value} {od_side_ahead an_side_ahead : Option Addr} {sl_side_ahead : Array (Option Value)} {f_side_ahead : Addr}
    {oc_walk kV_walk dc_walk pm_walk cd_walk ct_walk : Value} {od_walk an_walk : Option Addr} {sl_walk : Array (Option Value)} {f_walk : Addr}
    {oc_check_clues kV_check_clues dc_check_clues pm_check_clues cd_check_clues ct_check_clues : Value} {od_check_clues an_check_clues : Option Addr} {sl_check_clues : Array (Option Value)} {f_check_clues : Addr}
    {oc_fits kV_fits dc_fits pm_fits cd_fits ct_fits : Value} {od_fits an_fits : Option Addr} {sl_fits : Array (Option Value)} {f_fits : Addr}
    {oc_fitting_of kV_fitting_of dc_fitting_of pm_fitting_of cd_fitting_of ct_fitting_of : Value} {od_fitting_of an_fitting_of : Option Addr} {sl_fitting_of : Array (Option Value)} {f_fitting_of : Addr}
    {oc_One_init kV_One_init dc_One_init pm_One_init cd_One_init ct_One_init : Value} {od_One_init an_One_init : Option Addr} {sl_One_init : Array (Option Value)} {f_One_init : Addr}
    {oc_Two_init kV_Two_init dc_Two_init pm_Two_init cd_Two_init ct_Two_init : Value} {od_Two_init an_Two_init : Option Addr} {sl_Two_init : Array (Option Value)} {f_Two_init : Addr}
    {oc_told kV_told dc_told pm_told cd_told ct_told : Value} {od_told an_told : Option Addr} {sl_told : Array (Option Value)} {f_told : Addr}
    {oc_fitting kV_fitting dc_fitting pm_fitting cd_fitting ct_fitting : Value} {od_fitting an_fitting : Option Addr} {sl_fitting : Array (Option Value)} {f_fitting : Addr}
    {oc_Split_init kV_Split_init dc_Split_init pm_Split_init cd_Split_init ct_Split_init : Value} {od_Split_init an_Split_init : Option Addr} {sl_Split_init : Array (Option Value)} {f_Split_init : Addr}
    {oc_Hole_init kV_Hole_init dc_Hole_init pm_Hole_init cd_Hole_init ct_Hole_init : Value} {od_Hole_init an_Hole_init : Option Addr} {sl_Hole_init : Array (Option Value)} {f_Hole_init : Addr}
    {oc_judged kV_judged dc_judged pm_judged cd_judged ct_judged : Value} {od_judged an_judged : Option Addr} {sl_judged : Array (Option Value)} {f_judged : Addr}
    {oc_l_sound kV_l_sound dc_l_sound pm_l_sound cd_l_sound ct_l_sound : Value} {od_l_sound an_l_sound : Option Addr} {sl_l_sound : Array (Option Value)} {f_l_sound : Addr}
    {oc_One_shows kV_One_shows dc_One_shows pm_One_shows cd_One_shows ct_One_shows : Value} {od_One_shows an_One_shows : Option Addr} {sl_One_shows : Array (Option Value)} {f_One_shows : Addr}
    {oc_Two_shows kV_Two_shows dc_Two_shows pm_Two_shows cd_Two_shows ct_Two_shows : Value} {od_Two_shows an_Two_shows : Option Addr} {sl_Two_shows : Array (Option Value)} {f_Two_shows : Addr}
    {oc_Never_shows kV_Never_shows dc_Never_shows pm_Never_shows cd_Never_shows ct_Never_shows : Value} {od_Never_shows an_Never_shows : Option Addr} {sl_Never_shows : Array (Option Value)} {f_Never_shows : Addr}
    {oc_law kV_law dc_law pm_law cd_law ct_law : Value} {od_law an_law : Option Addr} {sl_law : Array (Option Value)} {f_law : Addr}
    {k_MOST : Tok}
    {k_FEW : Tok}
    (ha_is_whole : PySem.W.nsIn K mainGlobals "is_whole" = some (some (.ref f_is_whole)))
    (hl_is_whole : K.lookup f_is_whole = some ⟨oc_is_whole, od_is_whole, .func (PySem.W.fnOf "is_whole" "is_whole" (defArgs s_is_whole) (defBody s_is_whole) (defScope s_is_whole) .none kV_is_whole dc_is_whole pm_is_whole an_is_whole cd_is_whole ct_is_whole), sl_is_whole⟩)
    (hc_is_whole : PySem.W.codeIn K cd_is_whole "is_whole" = true)
    (hk_is_whole : PySem.W.keepIn K (.ref f_is_whole) = true)
    (ha_check_grid : PySem.W.nsIn K mainGlobals "check_grid" = some (some (.ref f_check_grid)))
    (hl_check_grid : K.lookup f_check_grid = some ⟨oc_check_grid, od_check_grid, .func (PySem.W.fnOf "check_grid" "check_grid" (defArgs s_check_grid) (defBody s_check_grid) (defScope s_check_grid) .none kV_check_grid dc_check_grid pm_check_grid an_check_grid cd_check_grid ct_check_grid), sl_check_grid⟩)
    (hc_check_grid : PySem.W.codeIn K cd_check_grid "check_grid" = true)
    (hk_check_grid : PySem.W.keepIn K (.ref f_check_grid) = true)
    (ha_check_few : PySem.W.nsIn K mainGlobals "check_few" = some (some (.ref f_check_few)))
    (hl_check_few : K.lookup f_check_few = some ⟨oc_check_few, od_check_few, .func (PySem.W.fnOf "check_few" "check_few" (defArgs s_check_few) (defBody s_check_few) (defScope s_check_few) .none kV_check_few dc_check_few pm_check_few an_check_few cd_check_few ct_check_few), sl_check_few⟩)
    (hc_check_few : PySem.W.codeIn K cd_check_few "check_few" = true)
    (hk_check_few : PySem.W.keepIn K (.ref f_check_few) = true)
    (ha_beside : PySem.W.nsIn K mainGlobals "beside" = some (some (.ref f_beside)))
    (hl_beside : K.lookup f_beside = some ⟨oc_beside, od_beside, .func (PySem.W.fnOf "beside" "beside" (defArgs s_beside) (defBody s_beside) (defScope s_beside) .none kV_beside dc_beside pm_beside an_beside cd_beside ct_beside), sl_beside⟩)
    (hc_beside : PySem.W.codeIn K cd_beside "beside" = true)
    (hk_beside : PySem.W.keepIn K (.ref f_beside) = true)
    (ha_spread : PySem.W.nsIn K mainGlobals "spread" = some (some (.ref f_spread)))
    (hl_spread : K.lookup f_spread = some ⟨oc_spread, od_spread, .func (PySem.W.fnOf "spread" "spread" (defArgs s_spread) (defBody s_spread) (defScope s_spread) .none kV_spread dc_spread pm_spread an_spread cd_spread ct_spread), sl_spread⟩)
    (hc_spread : PySem.W.codeIn K cd_spread "spread" = true)
    (hk_spread : PySem.W.keepIn K (.ref f_spread) = true)
    (ha_is_inner : PySem.W.nsIn K mainGlobals "is_inner" = some (some (.ref f_is_inner)))
    (hl_is_inner : K.lookup f_is_inner = some ⟨oc_is_inner, od_is_inner, .func (PySem.W.fnOf "is_inner" "is_inner" (defArgs s_is_inner) (defBody s_is_inner) (defScope s_is_inner) .none kV_is_inner dc_is_inner pm_is_inner an_is_inner cd_is_inner ct_is_inner), sl_is_inner⟩)
    (hc_is_inner : PySem.W.codeIn K cd_is_inner "is_inner" = true)
    (hk_is_inner : PySem.W.keepIn K (.ref f_is_inner) = true)
    (ha_first_inner : PySem.W.nsIn K mainGlobals "first_inner" = some (some (.ref f_first_inner)))
    (hl_first_inner : K.lookup f_first_inner = some ⟨oc_first_inner, od_first_inner, .func (PySem.W.fnOf "first_inner" "first_inner" (defArgs s_first_inner) (defBody s_first_inner) (defScope s_first_inner) .none kV_first_inner dc_first_inner pm_first_inner an_first_inner cd_first_inner ct_first_inner), sl_first_inner⟩)
    (hc_first_inner : PySem.W.codeIn K cd_first_inner "first_inner" = true)
    (hk_first_inner : PySem.W.keepIn K (.ref f_first_inner) = true)
    (ha_is_ring : PySem.W.nsIn K mainGlobals "is_ring" = some (some (.ref f_is_ring)))
    (hl_is_ring : K.lookup f_is_ring = some ⟨oc_is_ring, od_is_ring, .func (PySem.W.fnOf "is_ring" "is_ring" (defArgs s_is_ring) (defBody s_is_ring) (defScope s_is_ring) .none kV_is_ring dc_is_ring pm_is_ring an_is_ring cd_is_ring ct_is_ring), sl_is_ring⟩)
    (hc_is_ring : PySem.W.codeIn K cd_is_ring "is_ring" = true)
    (hk_is_ring : PySem.W.keepIn K (.ref f_is_ring) = true)
    (ha_all_rings : PySem.W.nsIn K mainGlobals "all_rings" = some (some (.ref f_all_rings)))
    (hl_all_rings : K.lookup f_all_rings = some ⟨oc_all_rings, od_all_rings, .func (PySem.W.fnOf "all_rings" "all_rings" (defArgs s_all_rings) (defBody s_all_rings) (defScope s_all_rings) .none kV_all_rings dc_all_rings pm_all_rings an_all_rings cd_all_rings ct_all_rings), sl_all_rings⟩)
    (hc_all_rings : PySem.W.codeIn K cd_all_rings "all_rings" = true)
    (hk_all_rings : PySem.W.keepIn K (.ref f_all_rings) = true)
    (ha_rings : PySem.W.nsIn K mainGlobals "rings" = some (some (.ref f_rings)))
    (hl_rings : K.lookup f_rings = some ⟨oc_rings, od_rings, .func (PySem.W.fnOf "rings" "rings" (defArgs s_rings) (defBody s_rings) (defScope s_rings) .none kV_rings dc_rings pm_rings an_rings cd_rings ct_rings), sl_rings⟩)
    (hc_rings : PySem.W.codeIn K cd_rings "rings" = true)
    (hk_rings : PySem.W.keepIn K (.ref f_rings) = true)
    (ha_check_cells : PySem.W.nsIn K mainGlobals "check_cells" = some (some (.ref f_check_cells)))
    (hl_check_cells : K.lookup f_check_cells = some ⟨oc_check_cells, od_check_cells, .func (PySem.W.fnOf "check_cells" "check_cells" (defArgs s_check_cells) (defBody s_check_cells) (defScope s_check_cells) .none kV_check_cells dc_check_cells pm_check_cells an_check_cells cd_check_cells ct_check_cells), sl_check_cells⟩)
    (hc_check_cells : PySem.W.codeIn K cd_check_cells "check_cells" = true)
    (hk_check_cells : PySem.W.keepIn K (.ref f_check_cells) = true)
    (ha_sides_of : PySem.W.nsIn K mainGlobals "sides_of" = some (some (.ref f_sides_of)))
    (hl_sides_of : K.lookup f_sides_of = some ⟨oc_sides_of, od_sides_of, .func (PySem.W.fnOf "sides_of" "sides_of" (defArgs s_sides_of) (defBody s_sides_of) (defScope s_sides_of) .none kV_sides_of dc_sides_of pm_sides_of an_sides_of cd_sides_of ct_sides_of), sl_sides_of⟩)
    (hc_sides_of : PySem.W.codeIn K cd_sides_of "sides_of" = true)
    (hk_sides_of : PySem.W.keepIn K (.ref f_sides_of) = true)
    (ha_numbers_of : PySem.W.nsIn K mainGlobals "numbers_of" = some (some (.ref f_numbers_of)))
    (hl_numbers_of : K.lookup f_numbers_of = some ⟨oc_numbers_of, od_numbers_of, .func (PySem.W.fnOf "numbers_of" "numbers_of" (defArgs s_numbers_of) (defBody s_numbers_of) (defScope s_numbers_of) .none kV_numbers_of dc_numbers_of pm_numbers_of an_numbers_of cd_numbers_of ct_numbers_of), sl_numbers_of⟩)
    (hc_numbers_of : PySem.W.codeIn K cd_numbers_of "numbers_of" = true)
    (hk_numbers_of : PySem.W.keepIn K (.ref f_numbers_of) = true)
    (ha_numbers : PySem.W.nsIn K mainGlobals "numbers" = some (some (.ref f_numbers)))
    (hl_numbers : K.lookup f_numbers = some ⟨oc_numbers, od_numbers, .func (PySem.W.fnOf "numbers" "numbers" (defArgs s_numbers) (defBody s_numbers) (defScope s_numbers) .none kV_numbers dc_numbers pm_numbers an_numbers cd_numbers ct_numbers), sl_numbers⟩)
    (hc_numbers : PySem.W.codeIn K cd_numbers "numbers" = true)
    (hk_numbers : PySem.W.keepIn K (.ref f_numbers) = true)
    (ha_side_ahead : PySem.W.nsIn K mainGlobals "side_ahead" = some (some (.ref f_side_ahead)))
    (hl_side_ahead : K.lookup f_side_ahead = some ⟨oc_side_ahead, od_side_ahead, .func (PySem.W.fnOf "side_ahead" "side_ahead" (defArgs s_side_ahead) (defBody s_side_ahead) (defScope s_side_ahead) .none kV_side_ahead dc_side_ahead pm_side_ahead an_side_ahead cd_side_ahead ct_side_ahead), sl_side_ahead⟩)
    (hc_side_ahead : PySem.W.codeIn K cd_side_ahead "side_ahead" = true)
    (hk_side_ahead : PySem.W.keepIn K (.ref f_side_ahead) = true)
    (ha_walk : PySem.W.nsIn K mainGlobals "walk" = some (some (.ref f_walk)))
    (hl_walk : K.lookup f_walk = some ⟨oc_walk, od_walk, .func (PySem.W.fnOf "walk" "walk" (defArgs s_walk) (defBody s_walk) (defScope s_walk) .none kV_walk dc_walk pm_walk an_walk cd_walk ct_walk), sl_walk⟩)
    (hc_walk : PySem.W.codeIn K cd_walk "walk" = true)
    (hk_walk : PySem.W.keepIn K (.ref f_walk) = true)
    (ha_check_clues : PySem.W.nsIn K mainGlobals "check_clues" = some (some (.ref f_check_clues)))
    (hl_check_clues : K.lookup f_check_clues = some ⟨oc_check_clues, od_check_clues, .func (PySem.W.fnOf "check_clues" "check_clues" (defArgs s_check_clues) (defBody s_check_clues) (defScope s_check_clues) .none kV_check_clues dc_check_clues pm_check_clues an_check_clues cd_check_clues ct_check_clues), sl_check_clues⟩)
    (hc_check_clues : PySem.W.codeIn K cd_check_clues "check_clues" = true)
    (hk_check_clues : PySem.W.keepIn K (.ref f_check_clues) = true)
    (ha_fits : PySem.W.nsIn K mainGlobals "fits" = some (some (.ref f_fits)))
    (hl_fits : K.lookup f_fits = some ⟨oc_fits, od_fits, .func (PySem.W.fnOf "fits" "fits" (defArgs s_fits) (defBody s_fits) (defScope s_fits) .none kV_fits dc_fits pm_fits an_fits cd_fits ct_fits), sl_fits⟩)
    (hc_fits : PySem.W.codeIn K cd_fits "fits" = true)
    (hk_fits : PySem.W.keepIn K (.ref f_fits) = true)
    (ha_fitting_of : PySem.W.nsIn K mainGlobals "fitting_of" = some (some (.ref f_fitting_of)))
    (hl_fitting_of : K.lookup f_fitting_of = some ⟨oc_fitting_of, od_fitting_of, .func (PySem.W.fnOf "fitting_of" "fitting_of" (defArgs s_fitting_of) (defBody s_fitting_of) (defScope s_fitting_of) .none kV_fitting_of dc_fitting_of pm_fitting_of an_fitting_of cd_fitting_of ct_fitting_of), sl_fitting_of⟩)
    (hc_fitting_of : PySem.W.codeIn K cd_fitting_of "fitting_of" = true)
    (hk_fitting_of : PySem.W.keepIn K (.ref f_fitting_of) = true)
    (h_n_One : PySem.W.nsIn K mainGlobals "One" = some (some (.ref a_cOne)))
    (ha_One_init : PySem.W.findIn K (.ref a_cOne) "__init__" = some (some (.ref f_One_init)))
    (hl_One_init : K.lookup f_One_init = some ⟨oc_One_init, od_One_init, .func (PySem.W.fnOf "__init__" "One.__init__" (defArgs s_One_init) (defBody s_One_init) (defScope s_One_init) .none kV_One_init dc_One_init pm_One_init an_One_init cd_One_init ct_One_init), sl_One_init⟩)
    (hc_One_init : PySem.W.codeIn K cd_One_init "One.__init__" = true)
    (hk_One_init : PySem.W.keepIn K (.ref f_One_init) = true)
    (h_n_Two : PySem.W.nsIn K mainGlobals "Two" = some (some (.ref a_cTwo)))
    (ha_Two_init : PySem.W.findIn K (.ref a_cTwo) "__init__" = some (some (.ref f_Two_init)))
    (hl_Two_init : K.lookup f_Two_init = some ⟨oc_Two_init, od_Two_init, .func (PySem.W.fnOf "__init__" "Two.__init__" (defArgs s_Two_init) (defBody s_Two_init) (defScope s_Two_init) .none kV_Two_init dc_Two_init pm_Two_init an_Two_init cd_Two_init ct_Two_init), sl_Two_init⟩)
    (hc_Two_init : PySem.W.codeIn K cd_Two_init "Two.__init__" = true)
    (hk_Two_init : PySem.W.keepIn K (.ref f_Two_init) = true)
    (ha_told : PySem.W.nsIn K mainGlobals "told" = some (some (.ref f_told)))
    (hl_told : K.lookup f_told = some ⟨oc_told, od_told, .func (PySem.W.fnOf "told" "told" (defArgs s_told) (defBody s_told) (defScope s_told) .none kV_told dc_told pm_told an_told cd_told ct_told), sl_told⟩)
    (hc_told : PySem.W.codeIn K cd_told "told" = true)
    (hk_told : PySem.W.keepIn K (.ref f_told) = true)
    (ha_fitting : PySem.W.nsIn K mainGlobals "fitting" = some (some (.ref f_fitting)))
    (hl_fitting : K.lookup f_fitting = some ⟨oc_fitting, od_fitting, .func (PySem.W.fnOf "fitting" "fitting" (defArgs s_fitting) (defBody s_fitting) (defScope s_fitting) .none kV_fitting dc_fitting pm_fitting an_fitting cd_fitting ct_fitting), sl_fitting⟩)
    (hc_fitting : PySem.W.codeIn K cd_fitting "fitting" = true)
    (hk_fitting : PySem.W.keepIn K (.ref f_fitting) = true)
    (h_n_Split : PySem.W.nsIn K mainGlobals "Split" = some (some (.ref a_cSplit)))
    (ha_Split_init : PySem.W.findIn K (.ref a_cSplit) "__init__" = some (some (.ref f_Split_init)))
    (hl_Split_init : K.lookup f_Split_init = some ⟨oc_Split_init, od_Split_init, .func (PySem.W.fnOf "__init__" "Split.__init__" (defArgs s_Split_init) (defBody s_Split_init) (defScope s_Split_init) .none kV_Split_init dc_Split_init pm_Split_init an_Split_init cd_Split_init ct_Split_init), sl_Split_init⟩)
    (hc_Split_init : PySem.W.codeIn K cd_Split_init "Split.__init__" = true)
    (hk_Split_init : PySem.W.keepIn K (.ref f_Split_init) = true)
    (h_n_Hole : PySem.W.nsIn K mainGlobals "Hole" = some (some (.ref a_cHole)))
    (ha_Hole_init : PySem.W.findIn K (.ref a_cHole) "__init__" = some (some (.ref f_Hole_init)))
    (hl_Hole_init : K.lookup f_Hole_init = some ⟨oc_Hole_init, od_Hole_init, .func (PySem.W.fnOf "__init__" "Hole.__init__" (defArgs s_Hole_init) (defBody s_Hole_init) (defScope s_Hole_init) .none kV_Hole_init dc_Hole_init pm_Hole_init an_Hole_init cd_Hole_init ct_Hole_init), sl_Hole_init⟩)
    (hc_Hole_init : PySem.W.codeIn K cd_Hole_init "Hole.__init__" = true)
    (hk_Hole_init : PySem.W.keepIn K (.ref f_Hole_init) = true)
    (ha_judged : PySem.W.nsIn K mainGlobals "judged" = some (some (.ref f_judged)))
    (hl_judged : K.lookup f_judged = some ⟨oc_judged, od_judged, .func (PySem.W.fnOf "judged" "judged" (defArgs s_judged) (defBody s_judged) (defScope s_judged) .none kV_judged dc_judged pm_judged an_judged cd_judged ct_judged), sl_judged⟩)
    (hc_judged : PySem.W.codeIn K cd_judged "judged" = true)
    (hk_judged : PySem.W.keepIn K (.ref f_judged) = true)
    (ha_l_sound : PySem.W.nsIn K mainGlobals "_law_sound" = some (some (.ref f_l_sound)))
    (hl_l_sound : K.lookup f_l_sound = some ⟨oc_l_sound, od_l_sound, .func (PySem.W.fnOf "_law_sound" "_law_sound" (defArgs s_l_sound) (defBody s_l_sound) (defScope s_l_sound) .none kV_l_sound dc_l_sound pm_l_sound an_l_sound cd_l_sound ct_l_sound), sl_l_sound⟩)
    (hc_l_sound : PySem.W.codeIn K cd_l_sound "_law_sound" = true)
    (hk_l_sound : PySem.W.keepIn K (.ref f_l_sound) = true)
    (ha_One_shows : PySem.W.findIn K (.ref a_cOne) "shows" = some (some (.ref f_One_shows)))
    (hl_One_shows : K.lookup f_One_shows = some ⟨oc_One_shows, od_One_shows, .func (PySem.W.fnOf "shows" "One.shows" (defArgs s_One_shows) (defBody s_One_shows) (defScope s_One_shows) .none kV_One_shows dc_One_shows pm_One_shows an_One_shows cd_One_shows ct_One_shows), sl_One_shows⟩)
    (hc_One_shows : PySem.W.codeIn K cd_One_shows "One.shows" = true)
    (hk_One_shows : PySem.W.keepIn K (.ref f_One_shows) = true)
    (ha_Two_shows : PySem.W.findIn K (.ref a_cTwo) "shows" = some (some (.ref f_Two_shows)))
    (hl_Two_shows : K.lookup f_Two_shows = some ⟨oc_Two_shows, od_Two_shows, .func (PySem.W.fnOf "shows" "Two.shows" (defArgs s_Two_shows) (defBody s_Two_shows) (defScope s_Two_shows) .none kV_Two_shows dc_Two_shows pm_Two_shows an_Two_shows cd_Two_shows ct_Two_shows), sl_Two_shows⟩)
    (hc_Two_shows : PySem.W.codeIn K cd_Two_shows "Two.shows" = true)
    (hk_Two_shows : PySem.W.keepIn K (.ref f_Two_shows) = true)
    (h_n_Never : PySem.W.nsIn K mainGlobals "Never" = some (some (.ref a_cNever)))
    (ha_Never_shows : PySem.W.findIn K (.ref a_cNever) "shows" = some (some (.ref f_Never_shows)))
    (hl_Never_shows : K.lookup f_Never_shows = some ⟨oc_Never_shows, od_Never_shows, .func (PySem.W.fnOf "shows" "Never.shows" (defArgs s_Never_shows) (defBody s_Never_shows) (defScope s_Never_shows) .none kV_Never_shows dc_Never_shows pm_Never_shows an_Never_shows cd_Never_shows ct_Never_shows), sl_Never_shows⟩)
    (hc_Never_shows : PySem.W.codeIn K cd_Never_shows "Never.shows" = true)
    (hk_Never_shows : PySem.W.keepIn K (.ref f_Never_shows) = true)
    (ha_law : PySem.W.nsIn K mainGlobals "law" = some (some (.ref f_law)))
    (hl_law : K.lookup f_law = some ⟨oc_law, od_law, .func (PySem.W.fnOf "law" "law" (defArgs s_law) (defBody s_law) (defScope s_law) .none kV_law dc_law pm_law an_law cd_law ct_law), sl_law⟩)
    (hc_law : PySem.W.codeIn K cd_law "law" = true)
    (hk_law : PySem.W.keepIn K (.ref f_law) = true)
    (hz_isinstance : PySem.W.nsIn K mainGlobals "isinstance" = some none)
    (hz_int : PySem.W.nsIn K mainGlobals "int" = some none)
    (hz_bool : PySem.W.nsIn K mainGlobals "bool" = some none)
    (hz_tuple : PySem.W.nsIn K mainGlobals "tuple" = some none)
    (hz_len : PySem.W.nsIn K mainGlobals "len" = some none)
    (hz_all : PySem.W.nsIn K mainGlobals "all" = some none)
    (hg_MOST : PySem.W.nsIn K mainGlobals "MOST" = some (some (.int 6 k_MOST)))
    (h_n_BadGrid : PySem.W.nsIn K mainGlobals "BadGrid" = some (some (.ref a_cBadGrid)))
    (h_x_BadGrid : PySem.W.excIn K a_cBadGrid [.type "ValueError", .type "Exception", .type "BaseException", .type "object"] "ValueError.__new__" = true)
    (h_k_BadGrid : PySem.W.keepIn K (.ref a_cBadGrid) = true)
    (h_e_BadGrid : PySem.W.subIn K (.ref a_cBadGrid) (.type "BaseException") = some true)
    (h_y_BadGrid : PySem.W.typeIn K (.ref a_cBadGrid) = some (.type "type"))
    (hg_FEW : PySem.W.nsIn K mainGlobals "FEW" = some (some (.int 9 k_FEW)))
    (hz_range : PySem.W.nsIn K mainGlobals "range" = some none)
    (hz_sorted : PySem.W.nsIn K mainGlobals "sorted" = some none)
    (hz_list : PySem.W.nsIn K mainGlobals "list" = some none)
    (h_n_BadCells : PySem.W.nsIn K mainGlobals "BadCells" = some (some (.ref a_cBadCells)))
    (h_x_BadCells : PySem.W.excIn K a_cBadCells [.type "ValueError", .type "Exception", .type "BaseException", .type "object"] "ValueError.__new__" = true)
    (h_k_BadCells : PySem.W.keepIn K (.ref a_cBadCells) = true)
    (h_e_BadCells : PySem.W.subIn K (.ref a_cBadCells) (.type "BaseException") = some true)
    (h_y_BadCells : PySem.W.typeIn K (.ref a_cBadCells) = some (.type "type"))
    (hz_any : PySem.W.nsIn K mainGlobals "any" = some none)
    (hz_zip : PySem.W.nsIn K mainGlobals "zip" = some none)
    (h_n_NoRing : PySem.W.nsIn K mainGlobals "NoRing" = some (some (.ref a_cNoRing)))
    (h_x_NoRing : PySem.W.excIn K a_cNoRing [.type "ValueError", .type "Exception", .type "BaseException", .type "object"] "ValueError.__new__" = true)
    (h_k_NoRing : PySem.W.keepIn K (.ref a_cNoRing) = true)
    (h_e_NoRing : PySem.W.subIn K (.ref a_cNoRing) (.type "BaseException") = some true)
    (h_y_NoRing : PySem.W.typeIn K (.ref a_cNoRing) = some (.type "type"))
    (h_n_BadClues : PySem.W.nsIn K mainGlobals "BadClues" = some (some (.ref a_cBadClues)))
    (h_x_BadClues : PySem.W.excIn K a_cBadClues [.type "ValueError", .type "Exception", .type "BaseException", .type "object"] "ValueError.__new__" = true)
    (h_k_BadClues : PySem.W.keepIn K (.ref a_cBadClues) = true)
    (h_e_BadClues : PySem.W.subIn K (.ref a_cBadClues) (.type "BaseException") = some true)
    (h_y_BadClues : PySem.W.typeIn K (.ref a_cBadClues) = some (.type "type"))
    (pg_One : PySem.W.plainGet K a_cOne Str.empty = true)
    (hd_One : PySem.W.hasDictIn K a_cOne = true)
    (po_One : PySem.W.plainOver K a_cOne = true)
    (sa_One : PySem.W.findIn K (.ref a_cOne) "__setattr__" = some (some (.builtin "object.__setattr__")))
    (na_One_cells : PySem.W.findIn K (.ref a_cOne) "cells" = some none)
    (pg_Two : PySem.W.plainGet K a_cTwo Str.empty = true)
    (hd_Two : PySem.W.hasDictIn K a_cTwo = true)
    (po_Two : PySem.W.plainOver K a_cTwo = true)
    (sa_Two : PySem.W.findIn K (.ref a_cTwo) "__setattr__" = some (some (.builtin "object.__setattr__")))
    (na_Two_one : PySem.W.findIn K (.ref a_cTwo) "one" = some none)
    (na_Two_other : PySem.W.findIn K (.ref a_cTwo) "other" = some none)
    (mk_Never : PySem.W.makesIn K a_cNever = true)
    (kc_Never : PySem.W.keepIn K (.ref a_cNever) = true)
    (oi_Never : PySem.W.findIn K (.ref a_cNever) "__init__" = some (some (.builtin "object.__init__")))
    (mk_One : PySem.W.makesIn K a_cOne = true)
    (kc_One : PySem.W.keepIn K (.ref a_cOne) = true)
    (if_One_init : PySem.W.isFn K (.ref f_One_init) = true)
    (mk_Two : PySem.W.makesIn K a_cTwo = true)
    (kc_Two : PySem.W.keepIn K (.ref a_cTwo) = true)
    (if_Two_init : PySem.W.isFn K (.ref f_Two_init) = true)
    (pg_Split : PySem.W.plainGet K a_cSplit Str.empty = true)
    (hd_Split : PySem.W.hasDictIn K a_cSplit = true)
    (po_Split : PySem.W.plainOver K a_cSplit = true)
    (sa_Split : PySem.W.findIn K (.ref a_cSplit) "__setattr__" = some (some (.builtin "object.__setattr__")))
    (na_Split_one : PySem.W.findIn K (.ref a_cSplit) "one" = some none)
    (na_Split_other : PySem.W.findIn K (.ref a_cSplit) "other" = some none)
    (pg_Hole : PySem.W.plainGet K a_cHole Str.empty = true)
    (hd_Hole : PySem.W.hasDictIn K a_cHole = true)
    (po_Hole : PySem.W.plainOver K a_cHole = true)
    (sa_Hole : PySem.W.findIn K (.ref a_cHole) "__setattr__" = some (some (.builtin "object.__setattr__")))
    (na_Hole_cell : PySem.W.findIn K (.ref a_cHole) "cell" = some none)
    (mk_Split : PySem.W.makesIn K a_cSplit = true)
    (kc_Split : PySem.W.keepIn K (.ref a_cSplit) = true)
    (if_Split_init : PySem.W.isFn K (.ref f_Split_init) = true)
    (h_n_Ring : PySem.W.nsIn K mainGlobals "Ring" = some (some (.ref a_cRing)))
    (mk_Ring : PySem.W.makesIn K a_cRing = true)
    (kc_Ring : PySem.W.keepIn K (.ref a_cRing) = true)
    (oi_Ring : PySem.W.findIn K (.ref a_cRing) "__init__" = some (some (.builtin "object.__init__")))
    (mk_Hole : PySem.W.makesIn K a_cHole = true)
    (kc_Hole : PySem.W.keepIn K (.ref a_cHole) = true)
    (if_Hole_init : PySem.W.isFn K (.ref f_Hole_init) = true)
    (hz_str : PySem.W.nsIn K mainGlobals "str" = some none)
    (ca_One : PySem.W.findIn K (.ref a_cOne) "__class__" = some (some (.builtin "object.__class__")))
    (cb_One : PySem.W.specialIn K (.builtin "object.__class__") "__get__" = some (some (.builtin "getset_descriptor.__get__")))
    (cc_One : PySem.W.takesIn K (.builtin "object.__class__") = some true)
    (cd_One : PySem.W.mroIn K a_cOne (.type "object") = some true)
    (ca_Two : PySem.W.findIn K (.ref a_cTwo) "__class__" = some (some (.builtin "object.__class__")))
    (cb_Two : PySem.W.specialIn K (.builtin "object.__class__") "__get__" = some (some (.builtin "getset_descriptor.__get__")))
    (cc_Two : PySem.W.takesIn K (.builtin "object.__class__") = some true)
    (cd_Two : PySem.W.mroIn K a_cTwo (.type "object") = some true)
    (pg_Never : PySem.W.plainGet K a_cNever Str.empty = true)
    (hd_Never : PySem.W.hasDictIn K a_cNever = true)
    (po_Never : PySem.W.plainOver K a_cNever = true)
    (sa_Never : PySem.W.findIn K (.ref a_cNever) "__setattr__" = some (some (.builtin "object.__setattr__")))
    (ca_Never : PySem.W.findIn K (.ref a_cNever) "__class__" = some (some (.builtin "object.__class__")))
    (cb_Never : PySem.W.specialIn K (.builtin "object.__class__") "__get__" = some (some (.builtin "getset_descriptor.__get__")))
    (cc_Never : PySem.W.takesIn K (.builtin "object.__class__") = some true)
    (cd_Never : PySem.W.mroIn K a_cNever (.type "object") = some true)
    (ic_One : PySem.W.isClsIn K a_cOne = true)
    (it_One : PySem.W.typeIn K (.ref a_cOne) = some (.type "type"))
    (is_One : PySem.W.subIn K (.ref a_cOne) (.ref a_cOne) = some true)
    (h_ki_Two_One : PySem.W.subIn K (.ref a_cTwo) (.ref a_cOne) = some false)
    (h_ki_Never_One : PySem.W.subIn K (.ref a_cNever) (.ref a_cOne) = some false)
    (ic_Two : PySem.W.isClsIn K a_cTwo = true)
    (it_Two : PySem.W.typeIn K (.ref a_cTwo) = some (.type "type"))
    (is_Two : PySem.W.subIn K (.ref a_cTwo) (.ref a_cTwo) = some true)
    (h_ki_One_Two : PySem.W.subIn K (.ref a_cOne) (.ref a_cTwo) = some false)
    (h_ki_Never_Two : PySem.W.subIn K (.ref a_cNever) (.ref a_cTwo) = some false)
    (hz_abs : PySem.W.nsIn K mainGlobals "abs" = some none)
    (hz_sum : PySem.W.nsIn K mainGlobals "sum" = some none)
    (if_One_shows : PySem.W.isFn K (.ref f_One_shows) = true)
    (if_Two_shows : PySem.W.isFn K (.ref f_Two_shows) = true)
    (if_Never_shows : PySem.W.isFn K (.ref f_Never_shows) = true) :
    ∃ fd : FuncData, (∀ (s : Shared) (v : Value), BindsTo s fd ⟨[v], []⟩ [("_law_script", v)]) ∧ ∀ base : Heap, K.In base → base.Ns mainGlobals mg → FnOk l.prog w K mg base CX0 9 fa fd ["_law_script"] (sp_law K) := by
  have e := hfa.symm.trans (PySem.W.mg_of X G ha_law)
  cases e
  let T : Tx K mg :=
    { C := { cBadGrid := a_cBadGrid, cBadCells := a_cBadCells, cBadClues := a_cBadClues, cNoRing := a_cNoRing, cRingError := 0, cRing := a_cRing, cSplit := a_cSplit, cHole := a_cHole, cOne := a_cOne, cTwo := a_cTwo, cNever := a_cNever, cAnswer := 0 },
      f_is_whole := f_is_whole,
      fd_is_whole := PySem.W.fnOf "is_whole" "is_whole" (defArgs s_is_whole) (defBody s_is_whole) (defScope s_is_whole) .none kV_is_whole dc_is_whole pm_is_whole an_is_whole cd_is_whole ct_is_whole,
      F_is_whole := fun_mk (st := s_is_whole) hl_is_whole hc_is_whole hk_is_whole,
      g_is_whole := PySem.W.mg_of X G ha_is_whole,
      b_is_whole := (fun_mk (st := s_is_whole) hl_is_whole hc_is_whole hk_is_whole).binds (ps := ["thing"]) fun _ _ _ _ _ _ us hl => match us, hl with | [_], _ => rfl,
      f_check_grid := f_check_grid,
      fd_check_grid := PySem.W.fnOf "check_grid" "check_grid" (defArgs s_check_grid) (defBody s_check_grid) (defScope s_check_grid) .none kV_check_grid dc_check_grid pm_check_grid an_check_grid cd_check_grid ct_check_grid,
      F_check_grid := fun_mk (st := s_check_grid) hl_check_grid hc_check_grid hk_check_grid,
      g_check_grid := PySem.W.mg_of X G ha_check_grid,
      b_check_grid := (fun_mk (st := s_check_grid) hl_check_grid hc_check_grid hk_check_grid).binds (ps := ["grid"]) fun _ _ _ _ _ _ us hl => match us, hl with | [_], _ => rfl,
      f_check_few := f_check_few,
      fd_check_few := PySem.W.fnOf "check_few" "check_few" (defArgs s_check_few) (defBody s_check_few) (defScope s_check_few) .none kV_check_few dc_check_few pm_check_few an_check_few cd_check_few ct_check_few,
      F_check_few := fun_mk (st := s_check_few) hl_check_few hc_check_few hk_check_few,
      g_check_few := PySem.W.mg_of X G ha_check_few,
      b_check_few := (fun_mk (st := s_check_few) hl_check_few hc_check_few hk_check_few).binds (ps := ["grid"]) fun _ _ _ _ _ _ us hl => match us, hl with | [_], _ => rfl,
      f_beside := f_beside,
      fd_beside := PySem.W.fnOf "beside" "beside" (defArgs s_beside) (defBody s_beside) (defScope s_beside) .none kV_beside dc_beside pm_beside an_beside cd_beside ct_beside,
      F_beside := fun_mk (st := s_beside) hl_beside hc_beside hk_beside,
      g_beside := PySem.W.mg_of X G ha_beside,
      b_beside := (fun_mk (st := s_beside) hl_beside hc_beside hk_beside).binds (ps := ["grid", "cell"]) fun _ _ _ _ _ _ us hl => match us, hl with | [_, _], _ => rfl,
      f_spread := f_spread,
      fd_spread := PySem.W.fnOf "spread" "spread" (defArgs s_spread) (defBody s_spread) (defScope s_spread) .none kV_spread dc_spread pm_spread an_spread cd_spread ct_spread,
      F_spread := fun_mk (st := s_spread) hl_spread hc_spread hk_spread,
      g_spread := PySem.W.mg_of X G ha_spread,
      b_spread := (fun_mk (st := s_spread) hl_spread hc_spread hk_spread).binds (ps := ["grid", "first", "some"]) fun _ _ _ _ _ _ us hl => match us, hl with | [_, _, _], _ => rfl,
      f_is_inner := f_is_inner,
      fd_is_inner := PySem.W.fnOf "is_inner" "is_inner" (defArgs s_is_inner) (defBody s_is_inner) (defScope s_is_inner) .none kV_is_inner dc_is_inner pm_is_inner an_is_inner cd_is_inner ct_is_inner,
      F_is_inner := fun_mk (st := s_is_inner) hl_is_inner hc_is_inner hk_is_inner,
      g_is_inner := PySem.W.mg_of X G ha_is_inner,
      b_is_inner := (fun_mk (st := s_is_inner) hl_is_inner hc_is_inner hk_is_inner).binds (ps := ["grid", "cells", "cell"]) fun _ _ _ _ _ _ us hl => match us, hl with | [_, _, _], _ => rfl,
      f_first_inner := f_first_inner,
      fd_first_inner := PySem.W.fnOf "first_inner" "first_inner" (defArgs s_first_inner) (defBody s_first_inner) (defScope s_first_inner) .none kV_first_inner dc_first_inner pm_first_inner an_first_inner cd_first_inner ct_first_inner,
      F_first_inner := fun_mk (st := s_first_inner) hl_first_inner hc_first_inner hk_first_inner,
      g_first_inner := PySem.W.mg_of X G ha_first_inner,
      b_first_inner := (fun_mk (st := s_first_inner) hl_first_inner hc_first_inner hk_first_inner).binds (ps := ["grid", "cells"]) fun _ _ _ _ _ _ us hl => match us, hl with | [_, _], _ => rfl,
      f_is_ring := f_is_ring,
      fd_is_ring := PySem.W.fnOf "is_ring" "is_ring" (defArgs s_is_ring) (defBody s_is_ring) (defScope s_is_ring) .none kV_is_ring dc_is_ring pm_is_ring an_is_ring cd_is_ring ct_is_ring,
      F_is_ring := fun_mk (st := s_is_ring) hl_is_ring hc_is_ring hk_is_ring,
      g_is_ring := PySem.W.mg_of X G ha_is_ring,
      b_is_ring := (fun_mk (st := s_is_ring) hl_is_ring hc_is_ring hk_is_ring).binds (ps := ["grid", "cells"]) fun _ _ _ _ _ _ us hl => match us, hl with | [_, _], _ => rfl,
      f_all_rings := f_all_rings,
      fd_all_rings := PySem.W.fnOf "all_rings" "all_rings" (defArgs s_all_rings) (defBody s_all_rings) (defScope s_all_rings) .none kV_all_rings dc_all_rings pm_all_rings an_all_rings cd_all_rings ct_all_rings,
      F_all_rings := fun_mk (st := s_all_rings) hl_all_rings hc_all_rings hk_all_rings,
      g_all_rings := PySem.W.mg_of X G ha_all_rings,
      b_all_rings := (fun_mk (st := s_all_rings) hl_all_rings hc_all_rings hk_all_rings).binds (ps := ["grid"]) fun _ _ _ _ _ _ us hl => match us, hl with | [_], _ => rfl,
      f_rings := f_rings,
      fd_rings := PySem.W.fnOf "rings" "rings" (defArgs s_rings) (defBody s_rings) (defScope s_rings) .none kV_rings dc_rings pm_rings an_rings cd_rings ct_rings,
      F_rings := fun_mk (st := s_rings) hl_rings hc_rings hk_rings,
      g_rings := PySem.W.mg_of X G ha_rings,
      b_rings := (fun_mk (st := s_rings) hl_rings hc_rings hk_rings).binds (ps := ["grid"]) fun _ _ _ _ _ _ us hl => match us, hl with | [_], _ => rfl,
      f_check_cells := f_check_cells,
      fd_check_cells := PySem.W.fnOf "check_cells" "check_cells" (defArgs s_check_cells) (defBody s_check_cells) (defScope s_check_cells) .none kV_check_cells dc_check_cells pm_check_cells an_check_cells cd_check_cells ct_check_cells,
      F_check_cells := fun_mk (st := s_check_cells) hl_check_cells hc_check_cells hk_check_cells,
      g_check_cells := PySem.W.mg_of X G ha_check_cells,
      b_check_cells := (fun_mk (st := s_check_cells) hl_check_cells hc_check_cells hk_check_cells).binds (ps := ["grid", "cells"]) fun _ _ _ _ _ _ us hl => match us, hl with | [_, _], _ => rfl,
      f_sides_of := f_sides_of,
      fd_sides_of := PySem.W.fnOf "sides_of" "sides_of" (defArgs s_sides_of) (defBody s_sides_of) (defScope s_sides_of) .none kV_sides_of dc_sides_of pm_sides_of an_sides_of cd_sides_of ct_sides_of,
      F_sides_of := fun_mk (st := s_sides_of) hl_sides_of hc_sides_of hk_sides_of,
      g_sides_of := PySem.W.mg_of X G ha_sides_of,
      b_sides_of := (fun_mk (st := s_sides_of) hl_sides_of hc_sides_of hk_sides_of).binds (ps := ["grid", "cells", "cell"]) fun _ _ _ _ _ _ us hl => match us, hl with | [_, _, _], _ => rfl,
      f_numbers_of := f_numbers_of,
      fd_numbers_of := PySem.W.fnOf "numbers_of" "numbers_of" (defArgs s_numbers_of) (defBody s_numbers_of) (defScope s_numbers_of) .none kV_numbers_of dc_numbers_of pm_numbers_of an_numbers_of cd_numbers_of ct_numbers_of,
      F_numbers_of := fun_mk (st := s_numbers_of) hl_numbers_of hc_numbers_of hk_numbers_of,
      g_numbers_of := PySem.W.mg_of X G ha_numbers_of,
      b_numbers_of := (fun_mk (st := s_numbers_of) hl_numbers_of hc_numbers_of hk_numbers_of).binds (ps := ["grid", "cells"]) fun _ _ _ _ _ _ us hl => match us, hl with | [_, _], _ => rfl,
      f_numbers := f_numbers,
      fd_numbers := PySem.W.fnOf "numbers" "numbers" (defArgs s_numbers) (defBody s_numbers) (defScope s_numbers) .none kV_numbers dc_numbers pm_numbers an_numbers cd_numbers ct_numbers,
      F_numbers := fun_mk (st := s_numbers) hl_numbers hc_numbers hk_numbers,
      g_numbers := PySem.W.mg_of X G ha_numbers,
      b_numbers := (fun_mk (st := s_numbers) hl_numbers hc_numbers hk_numbers).binds (ps := ["grid", "cells"]) fun _ _ _ _ _ _ us hl => match us, hl with | [_, _], _ => rfl,
      f_side_ahead := f_side_ahead,
      fd_side_ahead := PySem.W.fnOf "side_ahead" "side_ahead" (defArgs s_side_ahead) (defBody s_side_ahead) (defScope s_side_ahead) .none kV_side_ahead dc_side_ahead pm_side_ahead an_side_ahead cd_side_ahead ct_side_ahead,
      F_side_ahead := fun_mk (st := s_side_ahead) hl_side_ahead hc_side_ahead hk_side_ahead,
      g_side_ahead := PySem.W.mg_of X G ha_side_ahead,
      b_side_ahead := (fun_mk (st := s_side_ahead) hl_side_ahead hc_side_ahead hk_side_ahead).binds (ps := ["grid", "cells", "point", "turn"]) fun _ _ _ _ _ _ us hl => match us, hl with | [_, _, _, _], _ => rfl,
      f_walk := f_walk,
      fd_walk := PySem.W.fnOf "walk" "walk" (defArgs s_walk) (defBody s_walk) (defScope s_walk) .none kV_walk dc_walk pm_walk an_walk cd_walk ct_walk,
      F_walk := fun_mk (st := s_walk) hl_walk hc_walk hk_walk,
      g_walk := PySem.W.mg_of X G ha_walk,
      b_walk := (fun_mk (st := s_walk) hl_walk hc_walk hk_walk).binds (ps := ["grid", "cells"]) fun _ _ _ _ _ _ us hl => match us, hl with | [_, _], _ => rfl,
      f_check_clues := f_check_clues,
      fd_check_clues := PySem.W.fnOf "check_clues" "check_clues" (defArgs s_check_clues) (defBody s_check_clues) (defScope s_check_clues) .none kV_check_clues dc_check_clues pm_check_clues an_check_clues cd_check_clues ct_check_clues,
      F_check_clues := fun_mk (st := s_check_clues) hl_check_clues hc_check_clues hk_check_clues,
      g_check_clues := PySem.W.mg_of X G ha_check_clues,
      b_check_clues := (fun_mk (st := s_check_clues) hl_check_clues hc_check_clues hk_check_clues).binds (ps := ["clues"]) fun _ _ _ _ _ _ us hl => match us, hl with | [_], _ => rfl,
      f_fits := f_fits,
      fd_fits := PySem.W.fnOf "fits" "fits" (defArgs s_fits) (defBody s_fits) (defScope s_fits) .none kV_fits dc_fits pm_fits an_fits cd_fits ct_fits,
      F_fits := fun_mk (st := s_fits) hl_fits hc_fits hk_fits,
      g_fits := PySem.W.mg_of X G ha_fits,
      b_fits := (fun_mk (st := s_fits) hl_fits hc_fits hk_fits).binds (ps := ["clues", "cells"]) fun _ _ _ _ _ _ us hl => match us, hl with | [_, _], _ => rfl,
      f_fitting_of := f_fitting_of,
      fd_fitting_of := PySem.W.fnOf "fitting_of" "fitting_of" (defArgs s_fitting_of) (defBody s_fitting_of) (defScope s_fitting_of) .none kV_fitting_of dc_fitting_of pm_fitting_of an_fitting_of cd_fitting_of ct_fitting_of,
      F_fitting_of := fun_mk (st := s_fitting_of) hl_fitting_of hc_fitting_of hk_fitting_of,
      g_fitting_of := PySem.W.mg_of X G ha_fitting_of,
      b_fitting_of := (fun_mk (st := s_fitting_of) hl_fitting_of hc_fitting_of hk_fitting_of).binds (ps := ["clues"]) fun _ _ _ _ _ _ us hl => match us, hl with | [_], _ => rfl,
      g_One := PySem.W.mg_of X G h_n_One,
      f_One_init := f_One_init,
      fd_One_init := PySem.W.fnOf "__init__" "One.__init__" (defArgs s_One_init) (defBody s_One_init) (defScope s_One_init) .none kV_One_init dc_One_init pm_One_init an_One_init cd_One_init ct_One_init,
      F_One_init := fun_mk (st := s_One_init) hl_One_init hc_One_init hk_One_init,
      b_One_init := (fun_mk (st := s_One_init) hl_One_init hc_One_init hk_One_init).binds (ps := ["self", "cells"]) fun _ _ _ _ _ _ us hl => match us, hl with | [_, _], _ => rfl,
      g_Two := PySem.W.mg_of X G h_n_Two,
      f_Two_init := f_Two_init,
      fd_Two_init := PySem.W.fnOf "__init__" "Two.__init__" (defArgs s_Two_init) (defBody s_Two_init) (defScope s_Two_init) .none kV_Two_init dc_Two_init pm_Two_init an_Two_init cd_Two_init ct_Two_init,
      F_Two_init := fun_mk (st := s_Two_init) hl_Two_init hc_Two_init hk_Two_init,
      b_Two_init := (fun_mk (st := s_Two_init) hl_Two_init hc_Two_init hk_Two_init).binds (ps := ["self", "one", "other"]) fun _ _ _ _ _ _ us hl => match us, hl with | [_, _, _], _ => rfl,
      f_told := f_told,
      fd_told := PySem.W.fnOf "told" "told" (defArgs s_told) (defBody s_told) (defScope s_told) .none kV_told dc_told pm_told an_told cd_told ct_told,
      F_told := fun_mk (st := s_told) hl_told hc_told hk_told,
      g_told := PySem.W.mg_of X G ha_told,
      b_told := (fun_mk (st := s_told) hl_told hc_told hk_told).binds (ps := ["clues"]) fun _ _ _ _ _ _ us hl => match us, hl with | [_], _ => rfl,
      f_fitting := f_fitting,
      fd_fitting := PySem.W.fnOf "fitting" "fitting" (defArgs s_fitting) (defBody s_fitting) (defScope s_fitting) .none kV_fitting dc_fitting pm_fitting an_fitting cd_fitting ct_fitting,
      F_fitting := fun_mk (st := s_fitting) hl_fitting hc_fitting hk_fitting,
      g_fitting := PySem.W.mg_of X G ha_fitting,
      b_fitting := (fun_mk (st := s_fitting) hl_fitting hc_fitting hk_fitting).binds (ps := ["clues"]) fun _ _ _ _ _ _ us hl => match us, hl with | [_], _ => rfl,
      g_Split := PySem.W.mg_of X G h_n_Split,
      f_Split_init := f_Split_init,
      fd_Split_init := PySem.W.fnOf "__init__" "Split.__init__" (defArgs s_Split_init) (defBody s_Split_init) (defScope s_Split_init) .none kV_Split_init dc_Split_init pm_Split_init an_Split_init cd_Split_init ct_Split_init,
      F_Split_init := fun_mk (st := s_Split_init) hl_Split_init hc_Split_init hk_Split_init,
      b_Split_init := (fun_mk (st := s_Split_init) hl_Split_init hc_Split_init hk_Split_init).binds (ps := ["self", "one", "other"]) fun _ _ _ _ _ _ us hl => match us, hl with | [_, _, _], _ => rfl,
      g_Hole := PySem.W.mg_of X G h_n_Hole,
      f_Hole_init := f_Hole_init,
      fd_Hole_init := PySem.W.fnOf "__init__" "Hole.__init__" (defArgs s_Hole_init) (defBody s_Hole_init) (defScope s_Hole_init) .none kV_Hole_init dc_Hole_init pm_Hole_init an_Hole_init cd_Hole_init ct_Hole_init,
      F_Hole_init := fun_mk (st := s_Hole_init) hl_Hole_init hc_Hole_init hk_Hole_init,
      b_Hole_init := (fun_mk (st := s_Hole_init) hl_Hole_init hc_Hole_init hk_Hole_init).binds (ps := ["self", "cell"]) fun _ _ _ _ _ _ us hl => match us, hl with | [_, _], _ => rfl,
      f_judged := f_judged,
      fd_judged := PySem.W.fnOf "judged" "judged" (defArgs s_judged) (defBody s_judged) (defScope s_judged) .none kV_judged dc_judged pm_judged an_judged cd_judged ct_judged,
      F_judged := fun_mk (st := s_judged) hl_judged hc_judged hk_judged,
      g_judged := PySem.W.mg_of X G ha_judged,
      b_judged := (fun_mk (st := s_judged) hl_judged hc_judged hk_judged).binds (ps := ["grid", "cells"]) fun _ _ _ _ _ _ us hl => match us, hl with | [_, _], _ => rfl,
      f_l_sound := f_l_sound,
      fd_l_sound := PySem.W.fnOf "_law_sound" "_law_sound" (defArgs s_l_sound) (defBody s_l_sound) (defScope s_l_sound) .none kV_l_sound dc_l_sound pm_l_sound an_l_sound cd_l_sound ct_l_sound,
      F_l_sound := fun_mk (st := s_l_sound) hl_l_sound hc_l_sound hk_l_sound,
      g_l_sound := PySem.W.mg_of X G ha_l_sound,
      b_l_sound := (fun_mk (st := s_l_sound) hl_l_sound hc_l_sound hk_l_sound).binds (ps := ["_law_thing"]) fun _ _ _ _ _ _ us hl => match us, hl with | [_], _ => rfl,
      f_One_shows := f_One_shows,
      fd_One_shows := PySem.W.fnOf "shows" "One.shows" (defArgs s_One_shows) (defBody s_One_shows) (defScope s_One_shows) .none kV_One_shows dc_One_shows pm_One_shows an_One_shows cd_One_shows ct_One_shows,
      F_One_shows := fun_mk (st := s_One_shows) hl_One_shows hc_One_shows hk_One_shows,
      b_One_shows := (fun_mk (st := s_One_shows) hl_One_shows hc_One_shows hk_One_shows).binds (ps := ["self", "clues"]) fun _ _ _ _ _ _ us hl => match us, hl with | [_, _], _ => rfl,
      f_Two_shows := f_Two_shows,
      fd_Two_shows := PySem.W.fnOf "shows" "Two.shows" (defArgs s_Two_shows) (defBody s_Two_shows) (defScope s_Two_shows) .none kV_Two_shows dc_Two_shows pm_Two_shows an_Two_shows cd_Two_shows ct_Two_shows,
      F_Two_shows := fun_mk (st := s_Two_shows) hl_Two_shows hc_Two_shows hk_Two_shows,
      b_Two_shows := (fun_mk (st := s_Two_shows) hl_Two_shows hc_Two_shows hk_Two_shows).binds (ps := ["self", "clues"]) fun _ _ _ _ _ _ us hl => match us, hl with | [_, _], _ => rfl,
      g_Never := PySem.W.mg_of X G h_n_Never,
      f_Never_shows := f_Never_shows,
      fd_Never_shows := PySem.W.fnOf "shows" "Never.shows" (defArgs s_Never_shows) (defBody s_Never_shows) (defScope s_Never_shows) .none kV_Never_shows dc_Never_shows pm_Never_shows an_Never_shows cd_Never_shows ct_Never_shows,
      F_Never_shows := fun_mk (st := s_Never_shows) hl_Never_shows hc_Never_shows hk_Never_shows,
      b_Never_shows := (fun_mk (st := s_Never_shows) hl_Never_shows hc_Never_shows hk_Never_shows).binds (ps := ["self", "clues"]) fun _ _ _ _ _ _ us hl => match us, hl with | [_, _], _ => rfl,
      f_law := fa,
      fd_law := PySem.W.fnOf "law" "law" (defArgs s_law) (defBody s_law) (defScope s_law) .none kV_law dc_law pm_law an_law cd_law ct_law,
      F_law := fun_mk (st := s_law) hl_law hc_law hk_law,
      g_law := PySem.W.mg_of X G ha_law,
      b_law := (fun_mk (st := s_law) hl_law hc_law hk_law).binds (ps := ["_law_script"]) fun _ _ _ _ _ _ us hl => match us, hl with | [_], _ => rfl,
      n_isinstance := PySem.W.mg_none_of X G hz_isinstance,
      n_int := PySem.W.mg_none_of X G hz_int,
      n_bool := PySem.W.mg_none_of X G hz_bool,
      n_tuple := PySem.W.mg_none_of X G hz_tuple,
      n_len := PySem.W.mg_none_of X G hz_len,
      n_all := PySem.W.mg_none_of X G hz_all,
      k_MOST := k_MOST,
      g_MOST := PySem.W.mg_of X G hg_MOST,
      g_BadGrid := PySem.W.mg_of X G h_n_BadGrid,
      x_BadGrid := h_x_BadGrid,
      k_BadGrid := h_k_BadGrid,
      e_BadGrid := h_e_BadGrid,
      y_BadGrid := h_y_BadGrid,
      k_FEW := k_FEW,
      g_FEW := PySem.W.mg_of X G hg_FEW,
      n_range := PySem.W.mg_none_of X G hz_range,
      n_sorted := PySem.W.mg_none_of X G hz_sorted,
      n_list := PySem.W.mg_none_of X G hz_list,
      g_BadCells := PySem.W.mg_of X G h_n_BadCells,
      x_BadCells := h_x_BadCells,
      k_BadCells := h_k_BadCells,
      e_BadCells := h_e_BadCells,
      y_BadCells := h_y_BadCells,
      n_any := PySem.W.mg_none_of X G hz_any,
      n_zip := PySem.W.mg_none_of X G hz_zip,
      g_NoRing := PySem.W.mg_of X G h_n_NoRing,
      x_NoRing := h_x_NoRing,
      k_NoRing := h_k_NoRing,
      e_NoRing := h_e_NoRing,
      y_NoRing := h_y_NoRing,
      g_BadClues := PySem.W.mg_of X G h_n_BadClues,
      x_BadClues := h_x_BadClues,
      k_BadClues := h_k_BadClues,
      e_BadClues := h_e_BadClues,
      y_BadClues := h_y_BadClues,
      cl_One := ⟨pg_One, hd_One, po_One, sa_One⟩,
      cf_One := ⟨⟨pg_One, hd_One, po_One, sa_One⟩, fun f hf => by simp only [List.mem_cons, List.not_mem_nil, or_false] at hf; rcases hf with rfl <;> assumption⟩,
      cl_Two := ⟨pg_Two, hd_Two, po_Two, sa_Two⟩,
      cf_Two := ⟨⟨pg_Two, hd_Two, po_Two, sa_Two⟩, fun f hf => by simp only [List.mem_cons, List.not_mem_nil, or_false] at hf; rcases hf with rfl | rfl <;> assumption⟩,
      m_Never := ⟨mk_Never, oi_Never, kc_Never⟩,
      m_One := ⟨mk_One, ha_One_init, if_One_init, kc_One⟩,
      m_Two := ⟨mk_Two, ha_Two_init, if_Two_init, kc_Two⟩,
      cl_Split := ⟨pg_Split, hd_Split, po_Split, sa_Split⟩,
      cf_Split := ⟨⟨pg_Split, hd_Split, po_Split, sa_Split⟩, fun f hf => by simp only [List.mem_cons, List.not_mem_nil, or_false] at hf; rcases hf with rfl | rfl <;> assumption⟩,
      cl_Hole := ⟨pg_Hole, hd_Hole, po_Hole, sa_Hole⟩,
      cf_Hole := ⟨⟨pg_Hole, hd_Hole, po_Hole, sa_Hole⟩, fun f hf => by simp only [List.mem_cons, List.not_mem_nil, or_false] at hf; rcases hf with rfl <;> assumption⟩,
      m_Split := ⟨mk_Split, ha_Split_init, if_Split_init, kc_Split⟩,
      g_Ring := PySem.W.mg_of X G h_n_Ring,
      m_Ring := ⟨mk_Ring, oi_Ring, kc_Ring⟩,
      m_Hole := ⟨mk_Hole, ha_Hole_init, if_Hole_init, kc_Hole⟩,
      n_str := PySem.W.mg_none_of X G hz_str,
      ci_One := ⟨⟨pg_One, hd_One, po_One, sa_One⟩, ca_One, cb_One, cc_One, cd_One⟩,
      ci_Two := ⟨⟨pg_Two, hd_Two, po_Two, sa_Two⟩, ca_Two, cb_Two, cc_Two, cd_Two⟩,
      cl_Never := ⟨pg_Never, hd_Never, po_Never, sa_Never⟩,
      ci_Never := ⟨⟨pg_Never, hd_Never, po_Never, sa_Never⟩, ca_Never, cb_Never, cc_Never, cd_Never⟩,
      ki_One_One := kit_self,
      ki_Two_One := kit_not ic_One it_One h_ki_Two_One is_One,
      ki_Never_One := kit_not ic_One it_One h_ki_Never_One is_One,
      ki_One_Two := kit_not ic_Two it_Two h_ki_One_Two is_Two,
      ki_Two_Two := kit_self,
      ki_Never_Two := kit_not ic_Two it_Two h_ki_Never_Two is_Two,
      n_abs := PySem.W.mg_none_of X G hz_abs,
      n_sum := PySem.W.mg_none_of X G hz_sum,
      mt_One_shows := ⟨ha_One_shows, if_One_shows, hk_One_shows⟩,
      mt_Two_shows := ⟨ha_Two_shows, if_Two_shows, hk_Two_shows⟩,
      mt_Never_shows := ⟨ha_Never_shows, if_Never_shows, hk_Never_shows⟩ }
  exact ⟨T.fd_law, fun s v => .of_eq rfl, fun base _ _ => ok_law T⟩
end Sd
open PySem PySem.W PyProof.Rows
set_option maxHeartbeats 0 in
theorem PySem.Challenge.cw_sidering_k09_sorts_told_holds : PySem.Challenge.rw_sidering_k09_sorts_told.Holds := by
  w_on; o_law; k_head; (case hw => w_witness2)
  k_fill
  refine L2.walk_ofB (l := PySem.Challenge.rw_sidering_k09_sorts_told) (n := 63) (k := 9) (x := "_law_script") (CX := fun _ => L2.CX0) (sp := fun w => Sd.sp_law _) rfl (by decide) rfl ⟨rfl, by decide, by decide⟩ (fun w h Y => PySem.W.kIn_of Y) ?F (fun _ _ a ns hl hb _ hS => ⟨a, ns, rfl, hS, ⟨hl, hb⟩, fun _ => rfl⟩) (fun _ _ _ _ _ h => h)
  case F =>
    intro w mg fa h KX G hmg
    refine' Sd.all_mk KX G hmg ?ha_is_whole ?hl_is_whole ?hc_is_whole ?hk_is_whole ?ha_check_grid ?hl_check_grid ?hc_check_grid ?hk_check_grid ?ha_check_few ?hl_check_few ?hc_check_few ?hk_check_few ?ha_beside ?hl_beside ?hc_beside ?hk_beside ?ha_spread ?hl_spread ?hc_spread ?hk_spread ?ha_is_inner ?hl_is_inner ?hc_is_inner ?hk_is_inner ?ha_first_inner ?hl_first_inner ?hc_first_inner ?hk_first_inner ?ha_is_ring ?hl_is_ring ?hc_is_ring ?hk_is_ring ?ha_all_rings ?hl_all_rings ?hc_all_rings ?hk_all_rings ?ha_rings ?hl_rings ?hc_rings ?hk_rings ?ha_check_cells ?hl_check_cells ?hc_check_cells ?hk_check_cells ?ha_sides_of ?hl_sides_of ?hc_sides_of ?hk_sides_of ?ha_numbers_of ?hl_numbers_of ?hc_numbers_of ?hk_numbers_of ?ha_numbers ?hl_numbers ?hc_numbers ?hk_numbers ?ha_side_ahead ?hl_side_ahead ?hc_side_ahead ?hk_side_ahead ?ha_walk ?hl_walk ?hc_walk ?hk_walk ?ha_check_clues ?hl_check_clues ?hc_check_clues ?hk_check_clues ?ha_fits ?hl_fits ?hc_fits ?hk_fits ?ha_fitting_of ?hl_fitting_of ?hc_fitting_of ?hk_fitting_of ?h_n_One ?ha_One_init ?hl_One_init ?hc_One_init ?hk_One_init ?h_n_Two ?ha_Two_init ?hl_Two_init ?hc_Two_init ?hk_Two_init ?ha_told ?hl_told ?hc_told ?hk_told ?ha_fitting ?hl_fitting ?hc_fitting ?hk_fitting ?h_n_Split ?ha_Split_init ?hl_Split_init ?hc_Split_init ?hk_Split_init ?h_n_Hole ?ha_Hole_init ?hl_Hole_init ?hc_Hole_init ?hk_Hole_init ?ha_judged ?hl_judged ?hc_judged ?hk_judged ?ha_l_sound ?hl_l_sound ?hc_l_sound ?hk_l_sound ?ha_One_shows ?hl_One_shows ?hc_One_shows ?hk_One_shows ?ha_Two_shows ?hl_Two_shows ?hc_Two_shows ?hk_Two_shows ?h_n_Never ?ha_Never_shows ?hl_Never_shows ?hc_Never_shows ?hk_Never_shows ?ha_law ?hl_law ?hc_law ?hk_law ?hz_isinstance ?hz_int ?hz_bool ?hz_tuple ?hz_len ?hz_all ?hg_MOST ?h_n_BadGrid ?h_x_BadGrid ?h_k_BadGrid ?h_e_BadGrid ?h_y_BadGrid ?hg_FEW ?hz_range ?hz_sorted ?hz_list ?h_n_BadCells ?h_x_BadCells ?h_k_BadCells ?h_e_BadCells ?h_y_BadCells ?hz_any ?hz_zip ?h_n_NoRing ?h_x_NoRing ?h_k_NoRing ?h_e_NoRing ?h_y_NoRing ?h_n_BadClues ?h_x_BadClues ?h_k_BadClues ?h_e_BadClues ?h_y_BadClues ?pg_One ?hd_One ?po_One ?sa_One ?na_One_cells ?pg_Two ?hd_Two ?po_Two ?sa_Two ?na_Two_one ?na_Two_other ?mk_Never ?kc_Never ?oi_Never ?mk_One ?kc_One ?if_One_init ?mk_Two ?kc_Two ?if_Two_init ?pg_Split ?hd_Split ?po_Split ?sa_Split ?na_Split_one ?na_Split_other ?pg_Hole ?hd_Hole ?po_Hole ?sa_Hole ?na_Hole_cell ?mk_Split ?kc_Split ?if_Split_init ?h_n_Ring ?mk_Ring ?kc_Ring ?oi_Ring ?mk_Hole ?kc_Hole ?if_Hole_init ?hz_str ?ca_One ?cb_One ?cc_One ?cd_One ?ca_Two ?cb_Two ?cc_Two ?cd_Two ?pg_Never ?hd_Never ?po_Never ?sa_Never ?ca_Never ?cb_Never ?cc_Never ?cd_Never ?ic_One ?it_One ?is_One ?h_ki_Two_One ?h_ki_Never_One ?ic_Two ?it_Two ?is_Two ?h_ki_One_Two ?h_ki_Never_Two ?hz_abs ?hz_sum ?if_One_shows ?if_Two_shows ?if_Never_shows
    (case ha_is_whole => k_is)
    (case hl_is_whole => k_is)
    (case hc_is_whole => k_is)
    (case hk_is_whole => k_is)
    (case ha_check_grid => k_is)
    (case hl_check_grid => k_is)
    (case hc_check_grid => k_is)
    (case hk_check_grid => k_is)
    (case ha_check_few => k_is)
    (case hl_check_few => k_is)
    (case hc_check_few => k_is)
    (case hk_check_few => k_is)
    (case ha_beside => k_is)
    (case hl_beside => k_is)
    (case hc_beside => k_is)
    (case hk_beside => k_is)
    (case ha_spread => k_is)
    (case hl_spread => k_is)
    (case hc_spread => k_is)
    (case hk_spread => k_is)
    (case ha_is_inner => k_is)
    (case hl_is_inner => k_is)
    (case hc_is_inner => k_is)
    (case hk_is_inner => k_is)
    (case ha_first_inner => k_is)
    (case hl_first_inner => k_is)
    (case hc_first_inner => k_is)
    (case hk_first_inner => k_is)
    (case ha_is_ring => k_is)
    (case hl_is_ring => k_is)
    (case hc_is_ring => k_is)
    (case hk_is_ring => k_is)
    (case ha_all_rings => k_is)
    (case hl_all_rings => k_is)
    (case hc_all_rings => k_is)
    (case hk_all_rings => k_is)
    (case ha_rings => k_is)
    (case hl_rings => k_is)
    (case hc_rings => k_is)
    (case hk_rings => k_is)
    (case ha_check_cells => k_is)
    (case hl_check_cells => k_is)
    (case hc_check_cells => k_is)
    (case hk_check_cells => k_is)
    (case ha_sides_of => k_is)
    (case hl_sides_of => k_is)
    (case hc_sides_of => k_is)
    (case hk_sides_of => k_is)
    (case ha_numbers_of => k_is)
    (case hl_numbers_of => k_is)
    (case hc_numbers_of => k_is)
    (case hk_numbers_of => k_is)
    (case ha_numbers => k_is)
    (case hl_numbers => k_is)
    (case hc_numbers => k_is)
    (case hk_numbers => k_is)
    (case ha_side_ahead => k_is)
    (case hl_side_ahead => k_is)
    (case hc_side_ahead => k_is)
    (case hk_side_ahead => k_is)
    (case ha_walk => k_is)
    (case hl_walk => k_is)
    (case hc_walk => k_is)
    (case hk_walk => k_is)
    (case ha_check_clues => k_is)
    (case hl_check_clues => k_is)
    (case hc_check_clues => k_is)
    (case hk_check_clues => k_is)
    (case ha_fits => k_is)
    (case hl_fits => k_is)
    (case hc_fits => k_is)
    (case hk_fits => k_is)
    (case ha_fitting_of => k_is)
    (case hl_fitting_of => k_is)
    (case hc_fitting_of => k_is)
    (case hk_fitting_of => k_is)
    (case h_n_One => k_is)
    (case ha_One_init => k_is)
    (case hl_One_init => k_is)
    (case hc_One_init => k_is)
    (case hk_One_init => k_is)
    (case h_n_Two => k_is)
    (case ha_Two_init => k_is)
    (case hl_Two_init => k_is)
    (case hc_Two_init => k_is)
    (case hk_Two_init => k_is)
    (case ha_told => k_is)
    (case hl_told => k_is)
    (case hc_told => k_is)
    (case hk_told => k_is)
    (case ha_fitting => k_is)
    (case hl_fitting => k_is)
    (case hc_fitting => k_is)
    (case hk_fitting => k_is)
    (case h_n_Split => k_is)
    (case ha_Split_init => k_is)
    (case hl_Split_init => k_is)
    (case hc_Split_init => k_is)
    (case hk_Split_init => k_is)
    (case h_n_Hole => k_is)
    (case ha_Hole_init => k_is)
    (case hl_Hole_init => k_is)
    (case hc_Hole_init => k_is)
    (case hk_Hole_init => k_is)
    (case ha_judged => k_is)
    (case hl_judged => k_is)
    (case hc_judged => k_is)
    (case hk_judged => k_is)
    (case ha_l_sound => k_is)
    (case hl_l_sound => k_is)
    (case hc_l_sound => k_is)
    (case hk_l_sound => k_is)
    (case ha_One_shows => k_is)
    (case hl_One_shows => k_is)
    (case hc_One_shows => k_is)
    (case hk_One_shows => k_is)
    (case ha_Two_shows => k_is)
    (case hl_Two_shows => k_is)
    (case hc_Two_shows => k_is)
    (case hk_Two_shows => k_is)
    (case h_n_Never => k_is)
    (case ha_Never_shows => k_is)
    (case hl_Never_shows => k_is)
    (case hc_Never_shows => k_is)
    (case hk_Never_shows => k_is)
    (case ha_law => k_is)
    (case hl_law => k_is)
    (case hc_law => k_is)
    (case hk_law => k_is)
    (case hz_isinstance => k_is)
    (case hz_int => k_is)
    (case hz_bool => k_is)
    (case hz_tuple => k_is)
    (case hz_len => k_is)
    (case hz_all => k_is)
    (case hg_MOST => k_is)
    (case h_n_BadGrid => k_is)
    (case h_x_BadGrid => k_exc)
    (case h_k_BadGrid => k_is)
    (case h_e_BadGrid => k_is)
    (case h_y_BadGrid => k_is)
    (case hg_FEW => k_is)
    (case hz_range => k_is)
    (case hz_sorted => k_is)
    (case hz_list => k_is)
    (case h_n_BadCells => k_is)
    (case h_x_BadCells => k_exc)
    (case h_k_BadCells => k_is)
    (case h_e_BadCells => k_is)
    (case h_y_BadCells => k_is)
    (case hz_any => k_is)
    (case hz_zip => k_is)
    (case h_n_NoRing => k_is)
    (case h_x_NoRing => k_exc)
    (case h_k_NoRing => k_is)
    (case h_e_NoRing => k_is)
    (case h_y_NoRing => k_is)
    (case h_n_BadClues => k_is)
    (case h_x_BadClues => k_exc)
    (case h_k_BadClues => k_is)
    (case h_e_BadClues => k_is)
    (case h_y_BadClues => k_is)
    (case pg_One => k_is)
    (case hd_One => k_is)
    (case po_One => k_is)
    (case sa_One => k_is)
    (case na_One_cells => k_is)
    (case pg_Two => k_is)
    (case hd_Two => k_is)
    (case po_Two => k_is)
    (case sa_Two => k_is)
    (case na_Two_one => k_is)
    (case na_Two_other => k_is)
    (case mk_Never => k_is)
    (case kc_Never => k_is)
    (case oi_Never => k_is)
    (case mk_One => k_is)
    (case kc_One => k_is)
    (case if_One_init => k_is)
    (case mk_Two => k_is)
    (case kc_Two => k_is)
    (case if_Two_init => k_is)
    (case pg_Split => k_is)
    (case hd_Split => k_is)
    (case po_Split => k_is)
    (case sa_Split => k_is)
    (case na_Split_one => k_is)
    (case na_Split_other => k_is)
    (case pg_Hole => k_is)
    (case hd_Hole => k_is)
    (case po_Hole => k_is)
    (case sa_Hole => k_is)
    (case na_Hole_cell => k_is)
    (case mk_Split => k_is)
    (case kc_Split => k_is)
    (case if_Split_init => k_is)
    (case h_n_Ring => k_is)
    (case mk_Ring => k_is)
    (case kc_Ring => k_is)
    (case oi_Ring => k_is)
    (case mk_Hole => k_is)
    (case kc_Hole => k_is)
    (case if_Hole_init => k_is)
    (case hz_str => k_is)
    (case ca_One => k_is)
    (case cb_One => k_is)
    (case cc_One => k_is)
    (case cd_One => k_is)
    (case ca_Two => k_is)
    (case cb_Two => k_is)
    (case cc_Two => k_is)
    (case cd_Two => k_is)
    (case pg_Never => k_is)
    (case hd_Never => k_is)
    (case po_Never => k_is)
    (case sa_Never => k_is)
    (case ca_Never => k_is)
    (case cb_Never => k_is)
    (case cc_Never => k_is)
    (case cd_Never => k_is)
    (case ic_One => k_is)
    (case it_One => k_is)
    (case is_One => k_is)
    (case h_ki_Two_One => k_is)
    (case h_ki_Never_One => k_is)
    (case ic_Two => k_is)
    (case it_Two => k_is)
    (case is_Two => k_is)
    (case h_ki_One_Two => k_is)
    (case h_ki_Never_Two => k_is)
    (case hz_abs => k_is)
    (case hz_sum => k_is)
    (case if_One_shows => k_is)
    (case if_Two_shows => k_is)
    (case if_Never_shows => k_is)
