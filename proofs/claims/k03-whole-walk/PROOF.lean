import PyProof.Rows.All
import Wide.All
import OpenK.AllK
import Wide.FinOn
import HandS.ForMost
import HandS.ForExc
import HandS.Evl
import HandS.Steps
import HandS.IsInst
import HandS.Deep
import HandS.Style
import HandS.WideBits
import HandS.EndBits
import HandS.SortInts
import HandS.Zip
import KE.SortData
import HandS.Conv
import HandS.SetKeys
import KE.KDictKeyed
import KE.DataMinMax
import HandS.SetFor
import HandS.ExcIs
import HandS.ExcCtx
import HandS.HotCalls
import PyProof.MinMaxWalk
import PySem.Challenge.RW_sidering_k03_whole_walk
set_option Elab.async false
set_option linter.all false
set_option maxRecDepth 100000
set_option maxHeartbeats 4000000

/-! Rules of our own over the hand layer: C() of a class without an own __init__, one of several readings. -/
namespace Sd
open PySem L2 Evl
def tAlt (t u : TE) : TE := fun σ H Q => t σ H Q ∨ u σ H Q
/-- C(), no __init__ but object's -/
def tBare (C : Addr) : TE := fun σ H Q => ∀ x dx, H x = none → H dx = none → dx ≠ x → Q (.ref x) (upd (upd H dx (.own x)) x (.ins C dx []))
structure Mk0 (K : PySem.W.Frag) (C : Addr) : Prop where
  makes : PySem.W.makesIn K C = true
  init : PySem.W.findIn K (.ref C) "__init__" = some (some (.builtin "object.__init__"))
  kp : PySem.W.keepIn K (.ref C) = true
section
variable {X : Cx} {C : Addr} {x : Str} {p pos : Pos} {e : Expr} {t u : TE}
theorem pe_alt (h1 : PE X e t) (h2 : PE X e u) : PE X e (tAlt t u) := ⟨fun pins s σ H Q I h => h.elim (h1.run pins s σ H Q I) (h2.run pins s σ H Q I)⟩
theorem run_bare {pins : List (Addr × Obj)} {σ : St} {H : Hp} {s : Shared} {Q : VK} (M : Mk0 X.K C) (I : Inv X pins σ H s)
    (h : ∀ x dx, H x = none → H dx = none → dx ≠ x → Q (.ref x) (upd (upd H dx (.own x)) x (.ins C dx []))) : wpAny (model X.prog X.w) X.A (call (.ref C) []) (EP X pins σ Q) X.xe s := by
  have hq := h (s.heap.objs.size + 1) s.heap.objs.size (I.hok.fresh (Nat.le_succ _)) (I.hok.fresh (Nat.le_refl _)) (Nat.ne_of_lt (Nat.lt_succ_self _))
  have I2 := Inv.made (C := C) I
  have Y := PySem.W.makes_of (M := model X.prog X.w) I.kIn M.makes
  refine wpAny_call (make_map0 I.kIn M.makes M.init (fun self => PySem.W.Looks.of_pure (PySem.W.oi_bind self)) ?_)
  have hx : ((s.heap.push PySem.W.emptyDict).push (PySem.W.instObj C s.heap.objs.size)).get? (s.heap.objs.size + 1) = some (PySem.W.instObj C s.heap.objs.size) := by
    have := Heap.get?_push_size (s.heap.push PySem.W.emptyDict) (o := PySem.W.instObj C s.heap.objs.size) rfl
    rwa [Heap.size_push] at this
  have t1 : PySem.W.Looks (model X.prog X.w) ((s.heap.push PySem.W.emptyDict).push (PySem.W.instObj C s.heap.objs.size)) (typeOf (.ref (s.heap.objs.size + 1))) (.ref C) := (PySem.W.Looks.ld hx).andThen .now
  have t2 : PySem.W.Looks (model X.prog X.w) ((s.heap.push PySem.W.emptyDict).push (PySem.W.instObj C s.heap.objs.size)) (isInstance (.ref (s.heap.objs.size + 1)) (.type "object")) true := t1.andThen (Y.top.keeps fun b o e => Heap.get?_push_of_some _ (Heap.get?_push_of_some _ e))
  refine codeAny_call_builtin PySem.W.oi_plain PySem.W.entry_oi (@PySem.W.check_slot (model X.prog X.w) _ _ _ "object.__init__" "object" "__init__" (.ref (s.heap.objs.size + 1)) [] [] _ PySem.W.oi_kind PySem.W.oi_split t2 (PySem.W.oi_args (.ref (s.heap.objs.size + 1))) ?_)
  rw [PySem.W.oi_run]
  exact wpAny_pure (And.intro rfl ⟨V.ref (s.heap.objs.size + 1), _, I2, rfl, hq⟩)
theorem pe_bare (M : Mk0 X.K C) (hg : Gl X x) (hm : X.mg x = some (.ref C)) (hdb : (x == ("__debug__" : Str)) = false := by decide) : PE X (.Call (.Name x p) [] [] pos) (tBare C) := by
  refine ⟨fun pins s σ H Q I h => ?_⟩
  refine wpAny_Call_Name_kw (ld_glob I hg hm ?_ hdb)
  exact PySem.W.callWith_K0 I.kIn M.kp (run_bare M I h)
end
/-! ### sorted of data -/
/-- sorted(xs), each item some data: the same items, merge sorted by their data -/
def rSortV {γ : Type} (enc : γ → PyData) (K : PySem.W.Frag) : List V → Hp → VK → Prop := fun vs H Q => ∃ a, ∃ bs : List (V × γ), vs = [.ref a] ∧ SqL K H a (bs.map (·.1)) ∧ (∀ b ∈ bs, Dp K H b.1 (enc b.2)) ∧
  PySem.W.AllAlike (bs.map fun b => enc b.2) ∧ PySem.W.Sortable (bs.map fun b => enc b.2) ∧ (∀ b ∈ bs, (enc b.2).depth ≤ 40) ∧ ∀ p, H p = none → Q (.ref p) (upd H p (.lst ((bs.mergeSort (PySem.W.dataLe false fun b => enc b.2)).map (·.1))))
theorem each_of {γ : Type} {enc : γ → PyData} {X : Cx} {pins : List (Addr × Obj)} {σ : St} {H : Hp} {s : Shared} (I : Inv X pins σ H s) : ∀ {bs : List (V × γ)} {its : List Value}, Vals (bs.map (·.1)) its → (∀ b ∈ bs, Dp X.K H b.1 (enc b.2)) →
    PySem.W.EachIs (fun u b => RelV b.1 u) its bs ∧ PySem.W.EachIs (fun u b => ∃ as, Reads s.heap u (enc b.2) as) its bs
  | [], _, .nil, _ => ⟨.nil, .nil⟩
  | b :: bs, u :: us, .cons h hs, hd => by
    have ih := each_of I hs fun c hc => hd c (List.mem_cons_of_mem _ hc)
    exact ⟨.cons h ih.1, .cons (Dp.reads I _ _ _ (hd b List.mem_cons_self) h) ih.2⟩
theorem vals_of_each {γ : Type} : ∀ {bs : List (V × γ)} {its : List Value}, PySem.W.EachIs (fun u b => RelV b.1 u) its bs → Vals (bs.map (·.1)) its
  | [], _, .nil => .nil
  | _ :: _, _, .cons h t => .cons h (vals_of_each t)
theorem cr_sortV {γ : Type} {enc : γ → PyData} {X : Cx} (hu : X.A.units + 64 < cLine) : CallR X (.builtin "sorted") (rSortV enc X.K) := by
  intro pins s σ H vs us Q I r h
  obtain ⟨a, bs, rfl, hs, hd, hal, hk, hdep, q⟩ := h
  obtain ⟨its, rv, hl, hz⟩ := I.list hs
  rw [Vals.ref1 r]
  obtain ⟨e, er⟩ := each_of I rv hd
  have hlen : bs.length ≤ sizeLine := by rw [List.length_map] at hz; exact hz
  refine PySem.W.sorted_data hl.isList e er hal hk hlen (fun b hb => by have := hdep b hb; omega) fun out ho eo => ?_
  obtain ⟨ep, he'⟩ := PyProof.Rows.sortedAll_at s.heap its out.toArray
  have rv' := vals_of_each eo
  have hl2 : ((bs.mergeSort (PySem.W.dataLe false fun b => enc b.2)).map (·.1)).length ≤ sizeLine := by
    rw [List.length_map, List.length_mergeSort]
    exact hlen
  exact ⟨.ref _, upd H (s.heap.objs.size + 1) (.lst ((bs.mergeSort (PySem.W.dataLe false fun b => enc b.2)).map (·.1))), I.laid (t' := s.toks) (fun _ _ => PyProof.Rows.sortedAll_old) (Nat.le_succ _) ⟨hl2, out, ep, rv', he'⟩, rfl, q _ (I.hok.fresh (Nat.le_succ _))⟩
/-! ### isinstance of an own class -/
theorem kit_sub {K : PySem.W.Frag} {x y : Addr} (hc : PySem.W.isClsIn K y = true) (ht : PySem.W.typeIn K (.ref y) = some (.type "type")) (hs : PySem.W.subIn K (.ref x) (.ref y) = some true) : PySem.W.kitOne K (.ref x) (.ref y) = some true := by
  unfold PySem.W.kitOne
  split
  · rfl
  · unfold PySem.W.kitCls
    dsimp only
    have : ((PySem.W.clsIn K y).isSome && PySem.W.typeIn K (.ref y) == some (.type "type")) = true := by
      rw [ht]
      simp only [beq_self_eq_true, Bool.and_true]
      exact hc
    rw [if_pos this]
    exact hs
theorem kit_not {K : PySem.W.Frag} {x y : Addr} (hc : PySem.W.isClsIn K y = true) (ht : PySem.W.typeIn K (.ref y) = some (.type "type")) (hs : PySem.W.subIn K (.ref x) (.ref y) = some false) (hy : PySem.W.subIn K (.ref y) (.ref y) = some true) : PySem.W.kitOne K (.ref x) (.ref y) = some false := by
  have ne : ¬ ((Value.ref x == Value.ref y) = true) := fun e => by
    have : Value.ref x = Value.ref y := beq_iff_eq.mp e
    rw [this, hy] at hs
    cases hs
  unfold PySem.W.kitOne
  rw [if_neg ne]
  unfold PySem.W.kitCls
  dsimp only
  have : ((PySem.W.clsIn K y).isSome && PySem.W.typeIn K (.ref y) == some (.type "type")) = true := by
    rw [ht]
    simp only [beq_self_eq_true, Bool.and_true]
    exact hc
  rw [if_pos this]
  exact hs
theorem kit_self {K : PySem.W.Frag} {x : Addr} : PySem.W.kitOne K (.ref x) (.ref x) = some true := by
  unfold PySem.W.kitOne
  rw [if_pos (beq_iff_eq.mpr rfl)]
end Sd

/-! The words used for all laws: operations by name, what evaluates to what (over Evl), data, comprehensions. -/
namespace Sd
open PySem L2 Evl

abbrev oAdd : R2 := rI0 fun i j => .int (i + j)
abbrev oSub : R2 := rI0 fun i j => .int (i - j)
abbrev oMul : R2 := rI CMul fun i j => .int (i * j)
abbrev oMulX : R2 := rI CMulX fun i j => .int (i * j)
abbrev oDiv : R2 := rI CDiv fun i j => .int (i / j)
abbrev oMod : R2 := rI (fun _ j => 0 < j) fun i j => .int (i % j)
abbrev oPow : R2 := rI CPow fun i j => .int (i ^ j.toNat)
abbrev oShl : R2 := rI CPow fun i j => .int (i * 2 ^ j.toNat)
abbrev oShr : R2 := rI (fun _ j => 0 ≤ j) fun i j => .int (i / 2 ^ j.toNat)
abbrev oAnd : R2 := rI0 fun i j => .int (Builtin.bitAnd i j)
abbrev oLt : R2 := rI0 fun i j => .bl (decide (i < j))
abbrev oLe : R2 := rI0 fun i j => .bl (decide (i ≤ j))
abbrev oGt : R2 := rI0 fun i j => .bl (decide (j < i))
abbrev oGe : R2 := rI0 fun i j => .bl (decide (j ≤ i))
abbrev oNeg : V → Hp → VK → Prop := rU fun i => .int (-i)
abbrev rAbs : List V → Hp → VK → Prop := fun xs H Q => ∃ i, xs = [.int i] ∧ Q (.int (if i < 0 then -i else i)) H
theorem hu65 {A : Around} {k : Nat} (hr : Room k A) : A.units + 65 < cLine := by
  have := hr.un
  omega

theorem start_eq {N : List Str} {vs : List V} {n : Nat} (h : N.length = n) : L2.start N vs = vs.map some ++ List.replicate (n - vs.length) none := by
  subst h
  rfl
/-! ### sources: a list, a tuple, data -/
def EvS (K : PySem.W.Frag) (te : TE) (σ : L2.St) (H : Hp) (xs : List V) : Prop := ∀ H1, Ex H H1 → ∀ Q : VK, (∀ p H2, Ex H1 H2 → SqL K H2 p xs → Q (.ref p) H2) → te σ H1 Q
def EvST (K : PySem.W.Frag) (te : TE) (σ : L2.St) (H : Hp) (xs : List V) : Prop := ∀ H1, Ex H H1 → ∀ Q : VK, (∀ p H2, Ex H1 H2 → SqT K H2 p xs → Q (.ref p) H2) → te σ H1 Q
def EvD (K : PySem.W.Frag) (te : TE) (σ : L2.St) (H : Hp) (d : PyData) : Prop := ∀ H1, Ex H H1 → ∀ Q : VK, (∀ v H2, Ex H1 H2 → Dp K H2 v d → Q v H2) → te σ H1 Q
/-- any result: R of the heap ahead, the value, the heap behind -/
def EvP (te : TE) (σ : L2.St) (H : Hp) (R : Hp → V → Hp → Prop) : Prop := ∀ H1, Ex H H1 → ∀ Q : VK, (∀ v H2, Ex H1 H2 → R H1 v H2 → Q v H2) → te σ H1 Q

mutual
theorem Dp.mono {K : PySem.W.Frag} {H H' : Hp} (e : Ex H H') : ∀ {v : V} {d : PyData}, Dp K H v d → Dp K H' v d
  | _, _, .non => .non
  | _, _, .bl b => .bl b
  | _, _, .int i => .int i
  | _, _, .str x => .str x
  | _, _, .lst h hs => .lst (ex_l e h) (DpAll.mono e hs)
  | _, _, .tup h hs => .tup (ex_t e h) (DpAll.mono e hs)
theorem DpAll.mono {K : PySem.W.Frag} {H H' : Hp} (e : Ex H H') : ∀ {vs : List V} {ds : List PyData}, DpAll K H vs ds → DpAll K H' vs ds
  | _, _, .nil => .nil
  | _, _, .cons h hs => .cons (Dp.mono e h) (DpAll.mono e hs)
end
def dI (ns : List Int) : PyData := .list (ns.map PyData.int)
theorem dpAll_ints {K : PySem.W.Frag} {H : Hp} : ∀ ns : List Int, DpAll K H (ns.map V.int) (ns.map PyData.int)
  | [] => .nil
  | n :: r => .cons (.int n) (dpAll_ints r)
theorem dp_ints {K : PySem.W.Frag} {H : Hp} {a : Addr} {ns : List Int} (h : SqL K H a (ns.map V.int)) : Dp K H (.ref a) (dI ns) := .lst h (dpAll_ints ns)

section
variable {K : PySem.W.Frag} {σ : L2.St} {H H' : Hp} {ta tb tc te tl : TE} {t u : TT} {x y z v : V} {r r' : R2} {xs ys : List V} {d d' : PyData} {a : Addr}
theorem EvS.mono (e : Ex H H') (h : EvS K te σ H xs) : EvS K te σ H' xs := fun H1 e1 Q q => h H1 (e.trans e1) Q q
theorem EvD.mono (e : Ex H H') (h : EvD K te σ H d) : EvD K te σ H' d := fun H1 e1 Q q => h H1 (e.trans e1) Q q
theorem EvP.mono {R : Hp → V → Hp → Prop} (e : Ex H H') (h : EvP te σ H R) : EvP te σ H' R := fun H1 e1 Q q => h H1 (e.trans e1) Q q
theorem es_of (h : Ev te σ H (.ref a)) (hs : SqL K H a xs) : EvS K te σ H xs := fun H1 e Q q => h H1 e Q fun H2 e2 => q a H2 e2 (ex_l (e.trans e2) hs)
theorem es_new (h : EvL te σ H xs) : EvS K te σ H xs := fun H1 e Q q => h H1 e Q fun p H2 _ e2 hp => q p H2 e2 (sq_of hp)
theorem est_of (h : Ev te σ H (.ref a)) (hs : SqT K H a xs) : EvST K te σ H xs := fun H1 e Q q => h H1 e Q fun H2 e2 => q a H2 e2 (ex_t (e.trans e2) hs)
theorem est_new (h : EvU te σ H xs) : EvST K te σ H xs := fun H1 e Q q => h H1 e Q fun p H2 _ e2 hp => q p H2 e2 (st_of hp)
theorem ed_of (h : Ev te σ H v) (hd : Dp K H v d) : EvD K te σ H d := fun H1 e Q q => h H1 e Q fun H2 e2 => q v H2 e2 (Dp.mono (e.trans e2) hd)
theorem ed_ints {ns : List Int} (h : EvS K te σ H (ns.map V.int)) : EvD K te σ H (dI ns) := fun H1 e Q q => h H1 e Q fun p H2 e2 hp => q _ H2 e2 (dp_ints hp)
theorem ed_p {R : Hp → V → Hp → Prop} (h : EvP te σ H R) (hd : ∀ H1 v H2, R H1 v H2 → Dp K H2 v d) : EvD K te σ H d := fun H1 e Q q => h H1 e Q fun v H2 e2 hr => q v H2 e2 (hd _ _ _ hr)
theorem ep_v (h : Ev te σ H v) : EvP te σ H (fun _ w _ => w = v) := fun H1 e Q q => h H1 e Q fun H2 e2 => q v H2 e2 rfl
theorem ep_imp {R R' : Hp → V → Hp → Prop} (h : EvP te σ H R) (hr : ∀ H1 v H2, Ex H H1 → R H1 v H2 → R' H1 v H2) : EvP te σ H R' := fun H1 e Q q => h H1 e Q fun v H2 e2 z => q v H2 e2 (hr _ _ _ e z)
/-! ### operations -/
theorem ev_eqD (ha : EvD K ta σ H d) (hb : EvD K tb σ H d') (h1 : SeqAt.shaped d = true) (h2 : SeqAt.shaped d' = true) : Ev (tOp (rEqD K) ta tb) σ H (.bl (PyData.eqv d d')) := fun H1 e Q q =>
  ha H1 e _ fun v H2 e2 h => hb H2 (e.trans e2) _ fun w H3 e3 h' => ⟨d, d', Dp.mono e3 h, h', h1, h2, q H3 (e2.trans e3)⟩
theorem ev_neD (ha : EvD K ta σ H d) (hb : EvD K tb σ H d') (h1 : SeqAt.shaped d = true) (h2 : SeqAt.shaped d' = true) : Ev (tOp (rNeD K) ta tb) σ H (.bl (!PyData.eqv d d')) := fun H1 e Q q =>
  ha H1 e _ fun v H2 e2 h => hb H2 (e.trans e2) _ fun w H3 e3 h' => ⟨d, d', Dp.mono e3 h, h', h1, h2, q H3 (e2.trans e3)⟩
theorem ev_inD {ds : List PyData} (ha : EvD K ta σ H d) (hb : EvD K tb σ H (.list ds)) (h1 : SeqAt.shaped d = true) (h2 : SeqAt.shaped (.list ds) = true) : Ev (tOp (rInD K) ta tb) σ H (.bl (ds.any fun z => PyData.eqv z d)) := fun H1 e Q q =>
  ha H1 e _ fun v H2 e2 h => hb H2 (e.trans e2) _ fun w H3 e3 h' => ⟨d, ds, Dp.mono e3 h, h', h1, h2, q H3 (e2.trans e3)⟩
theorem ev_notInD {ds : List PyData} (ha : EvD K ta σ H d) (hb : EvD K tb σ H (.list ds)) (h1 : SeqAt.shaped d = true) (h2 : SeqAt.shaped (.list ds) = true) : Ev (tOp (rNotInD K) ta tb) σ H (.bl (!ds.any fun z => PyData.eqv z d)) := fun H1 e Q q =>
  ha H1 e _ fun v H2 e2 h => hb H2 (e.trans e2) _ fun w H3 e3 h' => ⟨d, ds, Dp.mono e3 h, h', h1, h2, q H3 (e2.trans e3)⟩
theorem ev_chain {b b' : Bool} (ha : Ev ta σ H x) (hb : Ev tb σ H y) (hr : RV r x y H (.bl b)) (hc : b = true → Ev tc σ H z) (hr' : b = true → RV r' y z H (.bl b')) : Ev (tChain r r' ta tb tc) σ H (.bl (b && b')) := fun H1 e Q q =>
  ha H1 e _ fun H2 e2 => hb H2 (e.trans e2) _ fun H3 e3 => hr H3 ((e.trans e2).trans e3) _ fun H4 e4 => ⟨b, rfl, by
    cases b with
    | true =>
      show tc σ H4 _
      refine hc rfl H4 (((e.trans e2).trans e3).trans e4) _ fun H5 e5 => ?_
      exact hr' rfl H5 ((((e.trans e2).trans e3).trans e4).trans e5) Q fun H6 e6 => q H6 ((((e2.trans e3).trans e4).trans e5).trans e6)
    | false =>
      show Q (.bl false) H4
      exact q H4 ((e2.trans e3).trans e4)⟩
theorem ev_lenS {xs : List V} (ha : EvS K ta σ H xs) : Ev (tCB (rLenS K) (tCons ta tNil)) σ H (.int (xs.length : Int)) := fun H1 e Q q =>
  ha H1 e _ fun p H2 e2 h2 => ⟨p, xs, rfl, Or.inl h2, q H2 e2⟩
theorem ev_lenT {xs : List V} (ha : EvST K ta σ H xs) : Ev (tCB (rLenS K) (tCons ta tNil)) σ H (.int (xs.length : Int)) := fun H1 e Q q =>
  ha H1 e _ fun p H2 e2 h2 => ⟨p, xs, rfl, Or.inr h2, q H2 e2⟩
theorem el_listS {xs : List V} (ha : EvS K ta σ H xs) : EvL (tCB (rListS K) (tCons ta tNil)) σ H xs := fun H1 e Q q =>
  ha H1 e _ fun p H2 e2 h2 => ⟨p, xs, rfl, Or.inl h2, fun l hl => q l _ (fresh_back e2 hl) (e2.trans (Ex.new hl)) upd_same⟩
theorem ev_sumS {ns : List Int} (ha : EvS K ta σ H (ns.map V.int)) : Ev (tCB (rSum K) (tCons ta tNil)) σ H (.int ns.sum) := fun H1 e Q q =>
  ha H1 e _ fun p H2 e2 h2 => ⟨p, ns, rfl, h2, q H2 e2⟩
theorem ev_allS {bs : List Bool} (ha : EvS K ta σ H (bs.map V.bl)) : Ev (tCB (rAll K) (tCons ta tNil)) σ H (.bl (bs.all id)) := fun H1 e Q q =>
  ha H1 e _ fun p H2 e2 h2 => ⟨p, bs, rfl, h2, q H2 e2⟩
theorem ev_anyS {bs : List Bool} (ha : EvS K ta σ H (bs.map V.bl)) : Ev (tCB (rAny K) (tCons ta tNil)) σ H (.bl (bs.any id)) := fun H1 e Q q =>
  ha H1 e _ fun p H2 e2 h2 => ⟨p, bs, rfl, h2, q H2 e2⟩
theorem ev_abs {i : Int} (ha : Ev ta σ H (.int i)) : Ev (tCB rAbs (tCons ta tNil)) σ H (.int (if i < 0 then -i else i)) := fun H1 e Q q =>
  ha H1 e _ fun H2 e2 => ⟨i, rfl, q H2 e2⟩
theorem el_slS {tl' th : TO} {lo hi : Option Int} (h : EvS K te σ H xs) (h1 : EvO tl' σ H lo) (h2 : EvO th σ H hi) : EvL (tSl (rSlL K) te tl' th) σ H (cutV xs lo hi) := fun H1 e _ q =>
  h H1 e _ fun a H2 e2 hs => h1 H2 (e.trans e2) _ fun H3 e3 => h2 H3 ((e.trans e2).trans e3) _ fun H4 e4 =>
    ⟨a, xs, rfl, ex_l (e3.trans e4) hs, fun p hp => q p _ (fresh_back ((e2.trans e3).trans e4) hp) (((e2.trans e3).trans e4).trans (Ex.new hp)) upd_same⟩
theorem ev_inS {ns : List Int} {i : Int} (ha : Ev ta σ H (.int i)) (hb : EvS K tb σ H (ns.map V.int)) : Ev (tOp (rIn K false) ta tb) σ H (.bl (inV (.int i) (ns.map V.int))) := fun H1 e Q q =>
  ha H1 e _ fun H2 e2 => hb H2 (e.trans e2) _ fun p H3 e3 h3 => ⟨p, _, rfl, Or.inl h3, rfl, by rw [List.all_map]; exact List.all_eq_true.mpr fun _ _ => rfl, q H3 (e2.trans e3)⟩
theorem ev_notInS {ns : List Int} {i : Int} (ha : Ev ta σ H (.int i)) (hb : EvS K tb σ H (ns.map V.int)) : Ev (tOp (rIn K true) ta tb) σ H (.bl (!inV (.int i) (ns.map V.int))) := fun H1 e Q q =>
  ha H1 e _ fun H2 e2 => hb H2 (e.trans e2) _ fun p H3 e3 h3 => ⟨p, _, rfl, Or.inl h3, rfl, by rw [List.all_map]; exact List.all_eq_true.mpr fun _ _ => rfl, q H3 (e2.trans e3)⟩
theorem inV_ints (i : Int) (ns : List Int) : inV (.int i) (ns.map V.int) = decide (i ∈ ns) := by
  induction ns with
  | nil => simp [inV]
  | cons n r ih =>
    have e : inV (.int i) ((n :: r).map V.int) = (eqV (.int n) (.int i) || inV (.int i) (r.map V.int)) := rfl
    rw [e, ih]
    have e2 : eqV (.int n) (.int i) = decide (n = i) := by
      show ((n == i) : Bool) = decide (n = i)
      exact Bool.beq_eq_decide_eq n i
    rw [e2, Bool.eq_iff_iff]
    simp only [Bool.or_eq_true, decide_eq_true_eq, List.mem_cons]
    exact ⟨fun h => h.elim (fun h => .inl h.symm) .inr, fun h => h.elim (fun h => .inl h.symm) .inr⟩
theorem ev_isIn {ns : List Int} {i : Int} (ha : Ev ta σ H (.int i)) (hb : EvS K tb σ H (ns.map V.int)) : Ev (tOp (rIn K false) ta tb) σ H (.bl (decide (i ∈ ns))) := ev_is (ev_inS ha hb) (by rw [inV_ints])
theorem ev_notIn {ns : List Int} {i : Int} (ha : Ev ta σ H (.int i)) (hb : EvS K tb σ H (ns.map V.int)) : Ev (tOp (rIn K true) ta tb) σ H (.bl (!decide (i ∈ ns))) := ev_is (ev_notInS ha hb) (by rw [inV_ints])
/-- in a written pair of ints -/
theorem ev_inT2 {i j k : Int} (ha : Ev ta σ H (.int i)) (hb : EvST K tb σ H [.int j, .int k]) : Ev (tOp (rIn K false) ta tb) σ H (.bl (decide (i = j ∨ i = k))) := fun H1 e Q q =>
  ha H1 e _ fun H2 e2 => hb H2 (e.trans e2) _ fun p H3 e3 h3 => ⟨p, _, rfl, Or.inr h3, rfl, rfl, by
    have w := inV_ints i [j, k]
    have w2 : inV (.int i) [V.int j, V.int k] = decide (i = j ∨ i = k) := by
      rw [show [V.int j, V.int k] = [j, k].map V.int from rfl, w]
      simp
    show Q (.bl (inV (.int i) [V.int j, V.int k])) H3
    rw [w2]
    exact q H3 (e2.trans e3)⟩
theorem ev_ixS {i : Int} (ha : EvS K ta σ H xs) (hb : Ev tb σ H (.int i)) (hx : atI xs i = some v) : Ev (tOp (rIxL K) ta tb) σ H v := fun H1 e Q q =>
  ha H1 e _ fun p H2 e2 h2 => hb H2 (e.trans e2) _ fun H3 e3 => ⟨p, xs, i, v, rfl, rfl, ex_l e3 h2, hx, q H3 (e2.trans e3)⟩
theorem ev_ixT {i : Int} (ha : EvST K ta σ H xs) (hb : Ev tb σ H (.int i)) (hx : atI xs i = some v) : Ev (tOp (rIxT K) ta tb) σ H v := fun H1 e Q q =>
  ha H1 e _ fun p H2 e2 h2 => hb H2 (e.trans e2) _ fun H3 e3 => ⟨p, xs, i, v, rfl, rfl, ex_t e3 h2, hx, q H3 (e2.trans e3)⟩
/-- isinstance -/
theorem ev_isi {c : V} {ty cv : Value} {b : Bool} (ha : Ev ta σ H x) (hc : Ev tc σ H c) (hv : ClsV c cv) (ht : ∀ H1, Ex H H1 → TyX K H1 x ty) (hk : PySem.W.kitOne K ty cv = some b) : Ev (tCB (rIsi K) (tCons ta (tCons tc tNil))) σ H (.bl b) := fun H1 e Q q =>
  ha H1 e _ fun H2 e2 => hc H2 (e.trans e2) _ fun H3 e3 => ⟨x, c, ty, cv, b, rfl, hv, ht H3 ((e.trans e2).trans e3), hk, q H3 (e2.trans e3)⟩
theorem filter_yes {α : Type} (l : List α) : (l.filter fun _ => true) = l := List.filter_eq_self.mpr fun _ _ => rfl
/-! ### comprehensions -/
/-- what holds while a new list at Dl grows: all that H1 knew stands -/
def Grow (H1 : Hp) (Dl : Addr) (ys : List V) (H' : Hp) : Prop := H1 Dl = none ∧ Ex H1 H' ∧ H' Dl = some (.lst ys)
theorem grow_turn {H1 H' : Hp} {Dl : Addr} {ys : List V} {b0 : Bool} {w : V} {σ2 : L2.St} (p : Grow H1 Dl ys H') (hz : ys.length < 100000) (ht : EvT t σ2 H1 b0) (he : b0 = true → Ev te σ2 H1 w) :
    t σ2 H' fun b H3 => if b = true then te σ2 H3 fun y H4 => ∃ acc, H4 Dl = some (.lst acc) ∧ acc.length < sizeLine ∧ Grow H1 Dl (ys ++ if b0 = true then [w] else []) (upd H4 Dl (.lst (acc ++ [y]))) else Grow H1 Dl (ys ++ if b0 = true then [w] else []) H3 := by
  obtain ⟨p1, p2, p3⟩ := p
  refine ht H' p2 _ fun H3 e3 => ?_
  cases b0 with
  | true =>
    show te σ2 H3 _
    refine he rfl H3 (p2.trans e3) _ fun H4 e4 => ⟨ys, e4 Dl _ (e3 Dl _ p3), sz_lt hz, p1, Ex.mut ((p2.trans e3).trans e4) p1, ?_⟩
    exact upd_same
  | false =>
    show Grow H1 Dl (ys ++ []) H3
    rw [List.append_nil]
    exact ⟨p1, p2.trans e3, e3 Dl _ p3⟩
theorem take_snoc {α : Type} {l : List α} {i : Nat} {x : α} (h : l[i]? = some x) : l.take (i + 1) = l.take i ++ [x] := by
  rw [List.take_add_one, h]
  rfl
/-- [e for x in xs if t], xs a list -/
theorem el_lc {j : Nat} {vs : List Nat} (f : V → Bool) (g : V → V) (h : EvS K tl σ H xs) (hz : xs.length ≤ 40000) (hw : ∀ x, wipe ((wipe σ vs).set j (some x)) vs = wipe σ vs)
    (ht : ∀ (x : V) H1, Ex H H1 → x ∈ xs → EvT t ((wipe σ vs).set j (some x)) H1 (f x)) (he : ∀ (x : V) H1, Ex H H1 → x ∈ xs → f x = true → Ev te ((wipe σ vs).set j (some x)) H1 (g x)) :
    EvL (tLc (iList K tl) (gName j) t te vs) σ H ((xs.filter f).map g) := fun H0 e Q q => h H0 e _ fun a H1 e1 hx => ⟨a, rfl, ⟨xs, hx⟩, fun Dl hD =>
  lc_list (xs := xs) (fun i => Grow H1 Dl (((xs.take i).filter f).map g)) ⟨hD, Ex.new hD, upd_same⟩ (fun i H' _ p => ex_l p.2.1 hx) (fun i x H' hi p => ⟨hw x, by
      have hm : x ∈ xs := List.mem_of_getElem? hi
      have hlen : (((xs.take i).filter f).map g).length < 100000 := by
        rw [List.length_map]
        have h1 := List.length_filter_le f (xs.take i)
        have h2 : (xs.take i).length ≤ xs.length := by rw [List.length_take]; omega
        omega
      have w := grow_turn p hlen (ht x H1 (e.trans e1) hm) (he x H1 (e.trans e1) hm)
      have e2 : (((xs.take (i + 1)).filter f).map g) = ((xs.take i).filter f).map g ++ if f x = true then [g x] else [] := by
        rw [take_snoc hi, List.filter_append, List.map_append]
        congr 1
        cases hf : f x <;> simp [hf]
      rw [e2]
      exact w⟩)
    (fun H' p => by
      rw [List.take_length] at p
      exact q Dl H' (fresh_back e1 p.1) (e1.trans p.2.1) p.2.2)⟩
/-- the same over ints -/
theorem el_lcI {ns : List Int} {j : Nat} {vs : List Nat} (f : Int → Bool) (g : Int → V) (h : EvS K tl σ H (ns.map V.int)) (hz : ns.length ≤ 40000) (hw : ∀ x, wipe ((wipe σ vs).set j (some x)) vs = wipe σ vs)
    (ht : ∀ (n : Int) H1, Ex H H1 → n ∈ ns → EvT t ((wipe σ vs).set j (some (.int n))) H1 (f n)) (he : ∀ (n : Int) H1, Ex H H1 → n ∈ ns → f n = true → Ev te ((wipe σ vs).set j (some (.int n))) H1 (g n)) :
    EvL (tLc (iList K tl) (gName j) t te vs) σ H ((ns.filter f).map g) := by
  have key : ((ns.map V.int).filter (fun v => match v with | .int n => f n | _ => false)).map (fun v => match v with | .int n => g n | _ => v) = (ns.filter f).map g := by
    clear h hz ht he
    induction ns with
    | nil => rfl
    | cons n r ih =>
      rw [List.map_cons, List.filter_cons, List.filter_cons]
      cases hf : f n <;> simp [ih, hf]
  rw [← key]
  refine el_lc _ _ h (by rw [List.length_map]; exact hz) hw (fun x H1 e hx => ?_) (fun x H1 e hx hf => ?_)
  · obtain ⟨n, hn, rfl⟩ := List.mem_map.mp hx
    exact ht n H1 e hn
  · obtain ⟨n, hn, rfl⟩ := List.mem_map.mp hx
    exact he n H1 e hn hf
/-- over range(n) -/
theorem el_lcR {ta : TA} {j : Nat} {vs : List Nat} {n : Nat} (f : Nat → Bool) (g : Nat → V) (h : EvA ta σ H [.int (n : Int)]) (hn : n ≤ 40000) (hw : ∀ x, wipe ((wipe σ vs).set j (some x)) vs = wipe σ vs)
    (ht : ∀ (i : Nat) H1, Ex H H1 → i < n → EvT t ((wipe σ vs).set j (some (.int (i : Int)))) H1 (f i)) (he : ∀ (i : Nat) H1, Ex H H1 → i < n → f i = true → Ev te ((wipe σ vs).set j (some (.int (i : Int)))) H1 (g i)) :
    EvL (tLc (iRng1 ta) (gName j) t te vs) σ H (((List.range n).filter f).map g) := by
  have w := el_lcR1 (t := t) (te := te) (vs := vs) (j := j) f g h ⟨by omega, by omega⟩ hw (fun i H1 e hi => ht i H1 e (by omega)) (fun i H1 e hi hf => he i H1 e (by omega) hf)
  rw [Int.toNat_natCast] at w
  exact w
theorem et_yes : EvT tYes σ H true := fun H1 _ _ q => q H1 (Ex.refl H1)
/-- over a tuple -/
theorem el_lcT {j : Nat} {vs : List Nat} (f : V → Bool) (g : V → V) (h : EvST K tl σ H xs) (hz : xs.length ≤ 40000) (hw : ∀ x, wipe ((wipe σ vs).set j (some x)) vs = wipe σ vs)
    (ht : ∀ (x : V) H1, Ex H H1 → x ∈ xs → EvT t ((wipe σ vs).set j (some x)) H1 (f x)) (he : ∀ (x : V) H1, Ex H H1 → x ∈ xs → f x = true → Ev te ((wipe σ vs).set j (some x)) H1 (g x)) :
    EvL (tLc (iTup K tl) (gName j) t te vs) σ H ((xs.filter f).map g) := fun H0 e Q q => h H0 e _ fun a H1 e1 hx => ⟨a, rfl, ⟨xs, hx⟩, fun Dl hD =>
  lc_tup (xs := xs) (fun i => Grow H1 Dl (((xs.take i).filter f).map g)) ⟨hD, Ex.new hD, upd_same⟩ (fun i H' _ p => ex_t p.2.1 hx) (fun i x H' hi p => ⟨hw x, by
      have hm : x ∈ xs := List.mem_of_getElem? hi
      have hlen : (((xs.take i).filter f).map g).length < 100000 := by
        rw [List.length_map]
        have h1 := List.length_filter_le f (xs.take i)
        have h2 : (xs.take i).length ≤ xs.length := by rw [List.length_take]; omega
        omega
      have w := grow_turn p hlen (ht x H1 (e.trans e1) hm) (he x H1 (e.trans e1) hm)
      have e2 : (((xs.take (i + 1)).filter f).map g) = ((xs.take i).filter f).map g ++ if f x = true then [g x] else [] := by
        rw [take_snoc hi, List.filter_append, List.map_append]
        congr 1
        cases hf : f x <;> simp [hf]
      rw [e2]
      exact w⟩)
    (fun H' p => by
      rw [List.take_length] at p
      exact q Dl H' (fresh_back e1 p.1) (e1.trans p.2.1) p.2.2)⟩
/-- over zip(xs, ys) -/
theorem el_lcZ {i j : Nat} {vs : List Nat} (f : V × V → Bool) (g : V × V → V) (ha : EvS K ta σ H xs) (hb : EvS K tb σ H ys) (hz : xs.length ≤ 40000) (hw : ∀ x y, wipe (((wipe σ vs).set i (some x)).set j (some y)) vs = wipe σ vs)
    (ht : ∀ (p : V × V) H1, Ex H H1 → p ∈ xs.zip ys → EvT t (((wipe σ vs).set i (some p.1)).set j (some p.2)) H1 (f p)) (he : ∀ (p : V × V) H1, Ex H H1 → p ∈ xs.zip ys → f p = true → Ev te (((wipe σ vs).set i (some p.1)).set j (some p.2)) H1 (g p)) :
    EvL (tLc (iZip K (tCons ta (tCons tb tNil))) (gTup K 2 (gCons (gName i) (gCons (gName j) gNil))) t te vs) σ H (((xs.zip ys).filter f).map g) := fun H0 e Q q => ha H0 e _ fun a H1 e1 hx => hb H1 (e.trans e1) _ fun b H2 e2 hy => ⟨a, b, xs, ys, rfl, ex_l e2 hx, hy, fun Dl hD => by
  have hx2 := ex_l e2 hx
  have hl : (xs.zip ys).length = min xs.length ys.length := List.length_zip
  refine ⟨fun n m H' => m = (xs.zip ys).length - n ∧ n ≤ (xs.zip ys).length ∧ Grow H2 Dl ((((xs.zip ys).take n).filter f).map g) H', ⟨(xs.zip ys).length, by simp, Nat.zero_le _, hD, Ex.new hD, upd_same⟩, ?_⟩
  rintro n m H' ⟨rfl, hn, p⟩
  by_cases hlt : n < (xs.zip ys).length
  · have h1 : n < xs.length := by omega
    have h2 : n < ys.length := by omega
    have g1 : xs[n]? = some xs[n] := List.getElem?_eq_getElem h1
    have g2 : ys[n]? = some ys[n] := List.getElem?_eq_getElem h2
    have g3 : (xs.zip ys)[n]? = some (xs[n], ys[n]) := by
      rw [List.getElem?_zip_eq_some]
      exact ⟨g1, g2⟩
    refine .inr ⟨⟨xs, ys, _, _, ex_l p.2.1 hx2, ex_l p.2.1 hy, g1, g2⟩, fun H'' => Grow H2 Dl ((((xs.zip ys).take (n + 1)).filter f).map g) H'', fun H'' z => ⟨_, by omega, rfl, hlt, z⟩, fun v H'' hv => ?_⟩
    obtain ⟨T, x, y, rfl, nT, rfl, f1, f2⟩ := hv
    have ex : x = xs[n] := Option.some.inj ((f1 _ (ex_l p.2.1 hx2)).symm.trans g1)
    have ey : y = ys[n] := Option.some.inj ((f2 _ (ex_l p.2.1 hy)).symm.trans g2)
    subst ex ey
    refine ⟨T, _, rfl, st_of upd_same, rfl, _, _, rfl, _, _, rfl, rfl, hw _ _, ?_⟩
    have hm : (xs[n], ys[n]) ∈ xs.zip ys := List.mem_of_getElem? g3
    have hlen : ((((xs.zip ys).take n).filter f).map g).length < 100000 := by
      rw [List.length_map]
      have h1 := List.length_filter_le f ((xs.zip ys).take n)
      have h2 : ((xs.zip ys).take n).length ≤ (xs.zip ys).length := by rw [List.length_take]; omega
      omega
    have p' : Grow H2 Dl ((((xs.zip ys).take n).filter f).map g) (upd H' T (.tup [xs[n], ys[n]])) := ⟨p.1, p.2.1.trans (Ex.new nT), by rw [upd_ne (ne_of_none p.2.2 nT)]; exact p.2.2⟩
    have w := grow_turn p' hlen (ht (xs[n], ys[n]) H2 ((e.trans e1).trans e2) hm) (he (xs[n], ys[n]) H2 ((e.trans e1).trans e2) hm)
    have e3 : ((((xs.zip ys).take (n + 1)).filter f).map g) = (((xs.zip ys).take n).filter f).map g ++ if f (xs[n], ys[n]) = true then [g (xs[n], ys[n])] else [] := by
      rw [take_snoc g3, List.filter_append, List.map_append]
      congr 1
      cases hf : f (xs[n], ys[n]) <;> simp [hf]
    rw [e3]
    exact w
  · refine .inl ⟨⟨xs, ys, ex_l p.2.1 hx2, ex_l p.2.1 hy, by omega⟩, ?_⟩
    have e3 : n = (xs.zip ys).length := by omega
    rw [e3, List.take_length] at p
    exact q Dl H' (fresh_back (e1.trans e2) p.1) ((e1.trans e2).trans p.2.1) p.2.2⟩
/-! ### statements -/
variable {D : Ends} {tu tw tz : TS}
/-- a, b = e, e a tuple of two -/
theorem q_unp {i j : Nat} (h : EvST K te σ H [x, y]) (k : ∀ H1, Ex H H1 → tz D ((σ.set i (some x)).set j (some y)) H1) : tSeq (tAsg te (gTup K 2 (gCons (gName i) (gCons (gName j) gNil)))) tz D σ H :=
  h H (Ex.refl H) _ fun p H1 e hp => ⟨p, [x, y], rfl, hp, rfl, x, [y], rfl, y, [], rfl, rfl, k H1 e⟩
theorem s_unp {i j : Nat} (h : EvST K te σ H [x, y]) (k : ∀ H1, Ex H H1 → D.nx ((σ.set i (some x)).set j (some y)) H1) : tAsg te (gTup K 2 (gCons (gName i) (gCons (gName j) gNil))) D σ H :=
  h H (Ex.refl H) _ fun p H1 e hp => ⟨p, [x, y], rfl, hp, rfl, x, [y], rfl, y, [], rfl, rfl, k H1 e⟩
/-- a, b = e1, e2 -/
theorem q_par {i j : Nat} (h : Ev ta σ H x) (h' : Ev tb σ H y) (k : ∀ H1, Ex H H1 → tz D ((σ.set i (some x)).set j (some y)) H1) : tSeq (tPar i j (tCons ta (tCons tb tNil))) tz D σ H :=
  h H (Ex.refl H) _ fun H1 e => h' H1 e _ fun H2 e2 => ⟨x, y, rfl, k H2 (e.trans e2)⟩
/-- if t: xs.append(e) -/
theorem q_ifApp {b : Bool} {l : Addr} (ht : EvT t σ H b) (hl : H l = some (.lst xs)) (ha : Ev ta σ H (.ref l)) (h : b = true → Ev te σ H v) (hz : xs.length < 100000) (k : ∀ H1, (∀ c o, c ≠ l → H c = some o → H1 c = some o) → H1 l = some (.lst (xs ++ if b = true then [v] else [])) → tz D σ H1) :
    tSeq (tIfS t (tDrop (tBM K "list" rAppend ta (tCons te tNil))) tNext) tz D σ H := q_when ht
  (fun hb H1 e1 => s_app (e1 l _ hl) (ha.mono e1) ((h hb).mono e1) hz fun H2 e2 => k _ (fun c o hc ho => by rw [upd_ne hc]; exact e2 _ _ (e1 _ _ ho)) (by rw [upd_same, if_pos hb]))
  (fun hb H1 e1 => k H1 (fun c o _ ho => e1 _ _ ho) (by rw [hb, if_neg Bool.false_ne_true, List.append_nil]; exact e1 _ _ hl))
theorem el_if {b : Bool} (h : EvT t σ H b) (h1 : b = true → EvL ta σ H xs) (h2 : b = false → EvL tb σ H xs) : EvL (tIf t ta tb) σ H xs := fun H1 e Q q => h H1 e _ fun H2 e2 => by
  cases b with
  | true =>
    show ta σ H2 Q
    exact h1 rfl H2 (e.trans e2) Q fun p H3 hp e3 h3 => q p H3 (fresh_back e2 hp) (e2.trans e3) h3
  | false =>
    show tb σ H2 Q
    exact h2 rfl H2 (e.trans e2) Q fun p H3 hp e3 h3 => q p H3 (fresh_back e2 hp) (e2.trans e3) h3
theorem eu_if {b : Bool} (h : EvT t σ H b) (h1 : b = true → EvU ta σ H xs) (h2 : b = false → EvU tb σ H xs) : EvU (tIf t ta tb) σ H xs := fun H1 e Q q => h H1 e _ fun H2 e2 => by
  cases b with
  | true =>
    show ta σ H2 Q
    exact h1 rfl H2 (e.trans e2) Q fun p H3 hp e3 h3 => q p H3 (fresh_back e2 hp) (e2.trans e3) h3
  | false =>
    show tb σ H2 Q
    exact h2 rfl H2 (e.trans e2) Q fun p H3 hp e3 h3 => q p H3 (fresh_back e2 hp) (e2.trans e3) h3
theorem q_asgP {R : Hp → V → Hp → Prop} {i : Nat} (h : EvP te σ H R) (k : ∀ v H1, Ex H H1 → R H v H1 → tz D (σ.set i (some v)) H1) : tSeq (tAsg te (gName i)) tz D σ H := h H (Ex.refl H) _ fun v H1 e z => k v H1 e z
theorem s_asgP {R : Hp → V → Hp → Prop} {i : Nat} (h : EvP te σ H R) (k : ∀ v H1, Ex H H1 → R H v H1 → D.nx (σ.set i (some v)) H1) : tAsg te (gName i) D σ H := h H (Ex.refl H) _ fun v H1 e z => k v H1 e z
/-- a, b = e1, e2, the second a new list -/
theorem q_parL {i j : Nat} (h : Ev ta σ H x) (h' : EvL tb σ H xs) (k : ∀ p H1, H p = none → Ex H H1 → H1 p = some (.lst xs) → tz D ((σ.set i (some x)).set j (some (.ref p))) H1) : tSeq (tPar i j (tCons ta (tCons tb tNil))) tz D σ H :=
  h H (Ex.refl H) _ fun H1 e => h' H1 e _ fun p H2 hp e2 h2 => ⟨x, _, rfl, k p H2 (fresh_back e hp) (e.trans e2) h2⟩
/-- .. the first a new list -/
theorem q_parL1 {i j : Nat} (h : EvL ta σ H xs) (h' : Ev tb σ H y) (k : ∀ p H1, H p = none → Ex H H1 → H1 p = some (.lst xs) → tz D ((σ.set i (some (.ref p))).set j (some y)) H1) : tSeq (tPar i j (tCons ta (tCons tb tNil))) tz D σ H :=
  h H (Ex.refl H) _ fun p H1 hp e h1 => h' H1 e _ fun H2 e2 => ⟨_, y, rfl, k p H2 hp (e.trans e2) (e2 _ _ h1)⟩
end
/-! ### further statements -/
section
variable {K : PySem.W.Frag} {σ : L2.St} {H H' : Hp} {ta tb tc te tl : TE} {t u : TT} {x y z v : V} {xs ys : List V} {D : Ends} {tu tw tz : TS}
/-- a, b = e1, e2 by a tuple, the first a new list -/
theorem q_tupLV {i j : Nat} (h : EvL ta σ H xs) (h' : Ev tb σ H y) (k : ∀ p H1, H p = none → Ex H H1 → H1 p = some (.lst xs) → tz D ((σ.set i (some (.ref p))).set j (some y)) H1) :
    tSeq (tAsg (tTup (tCons ta (tCons tb tNil))) (gTup K 2 (gCons (gName i) (gCons (gName j) gNil)))) tz D σ H :=
  h H (Ex.refl H) _ fun p H1 hp e h1 => h' H1 e _ fun H2 e2 => ⟨sz_of (by simp), fun q hq => ⟨q, _, rfl, st_of upd_same, rfl, _, _, rfl, _, _, rfl, rfl, k p _ hp ((e.trans e2).trans (Ex.new hq)) (Ex.new hq _ _ (e2 _ _ h1))⟩⟩
/-- xs.extend(a new list) -/
theorem s_extL {l : Addr} (hl : H l = some (.lst xs)) (ha : Ev ta σ H (.ref l)) (h : EvL te σ H ys) (hz : xs.length + ys.length ≤ 100000) (k : ∀ H1, Ex H H1 → D.nx σ (upd H1 l (.lst (xs ++ ys)))) :
    tDrop (tBM K "list" rExtend ta (tCons te tNil)) D σ H := ha H (Ex.refl H) _ fun H1 e1 =>
  ⟨Or.inl ⟨rfl, xs, sq_of (e1 l _ hl)⟩, h H1 e1 _ fun p H2 hp e2 h2 => ⟨l, p, xs, ys, rfl, rfl, e2 l _ (e1 l _ hl), h2, sz_of hz, k H2 (e1.trans e2)⟩⟩
theorem q_extL {l : Addr} (hl : H l = some (.lst xs)) (ha : Ev ta σ H (.ref l)) (h : EvL te σ H ys) (hz : xs.length + ys.length ≤ 100000) (k : ∀ H1, Ex H H1 → tz D σ (upd H1 l (.lst (xs ++ ys)))) :
    tSeq (tDrop (tBM K "list" rExtend ta (tCons te tNil))) tz D σ H := s_extL (D := { D with nx := tz D }) hl ha h hz k
theorem rv_isN : RV rIsN x .non H (.bl (decide (x = .non))) := fun H1 _ _ q => ⟨rfl, q H1 (Ex.refl H1)⟩
theorem rv_notN : RV rNotN x .non H (.bl (!decide (x = .non))) := fun H1 _ _ q => ⟨rfl, q H1 (Ex.refl H1)⟩
theorem rv_isB {a b : Bool} : RV rIsB (.bl a) (.bl b) H (.bl (decide (a = b))) := fun H1 _ _ q => ⟨a, b, rfl, rfl, q H1 (Ex.refl H1)⟩
theorem rv_notB {a b : Bool} : RV rNotB (.bl a) (.bl b) H (.bl (!decide (a = b))) := fun H1 _ _ q => ⟨a, b, rfl, rfl, q H1 (Ex.refl H1)⟩
end
end Sd

/-! The program and the laws' helpers as plain functions over ints, naturals and lists: no Python here. -/
namespace Sd
/-- a grid -/
def GOk (h w : Nat) : Prop := 1 ≤ h ∧ h ≤ 6 ∧ 1 ≤ w ∧ w ≤ 6
/-- some cells of it: rising, one at least -/
def Rising (cs : List Int) : Prop := cs.Pairwise (· < ·)
def InGrid (h w : Nat) (cs : List Int) : Prop := ∀ x ∈ cs, 0 ≤ x ∧ x < (h : Int) * w
def COk (h w : Nat) (cs : List Int) : Prop := cs ≠ [] ∧ InGrid h w cs ∧ Rising cs
def besideA (w : Nat) (x : Int) : List Int := if (w : Int) ≤ x then [x - w] else []
def besideB (w : Nat) (x : Int) : List Int := if 0 < x % (w : Int) then [x - 1] else []
def besideC (w : Nat) (x : Int) : List Int := if x % (w : Int) < (w : Int) - 1 then [x + 1] else []
def besideD (h w : Nat) (x : Int) : List Int := if x < (w : Int) * ((h : Int) - 1) then [x + w] else []
/-- the cells beside a cell, rising -/
def beside (h w : Nat) (x : Int) : List Int := besideA w x ++ besideB w x ++ besideC w x ++ besideD h w x
/-- how many sides of a cell are on the rim -/
def near (h w : Nat) (cs : List Int) (x : Int) : Nat := ((beside h w x).filter fun o => decide (o ∈ cs)).length
def sidesOf (h w : Nat) (cs : List Int) (x : Int) : Int := if x ∈ cs then 4 - (near h w cs x : Int) else (near h w cs x : Int)
def numbersOf (h w : Nat) (cs : List Int) : List (List Int) := (List.range h).map fun (r : Nat) => (List.range w).map fun (a : Nat) => sidesOf h w cs ((r : Int) * w + (a : Int))
theorem beside_len (h w : Nat) (x : Int) : (beside h w x).length ≤ 4 := by
  unfold beside besideA besideB besideC besideD
  simp only [List.length_append]
  split <;> split <;> split <;> split <;> simp
theorem hw_le {h w : Nat} (g : GOk h w) : (h : Int) * w ≤ 36 ∧ 1 ≤ (h : Int) * w := by
  obtain ⟨h1, h2, h3, h4⟩ := g
  have e1 : h = 1 ∨ h = 2 ∨ h = 3 ∨ h = 4 ∨ h = 5 ∨ h = 6 := by omega
  rcases e1 with rfl | rfl | rfl | rfl | rfl | rfl <;> omega
/-! ### the laws' helpers -/
def lNumber (c a s : Int) : Int :=
  if 10 ^ 18 ≤ c then c
  else
    let m := ((c + 977 * a) * 48271 + s) % 2147483647
    let n := m * (m + 31 * a + 7) * (m + c + 5)
    n * (n + 48271) / 1009
def lGridGo (most : Nat) : Nat → Nat → Nat → Nat × Nat
  | 0, h, w => (h, w)
  | k + 1, h, w => if most < h * w then (if w < h then lGridGo most k (h - 1) w else lGridGo most k h (w - 1)) else (h, w)
def lGrid (n : Int) (most : Nat) : Nat × Nat := lGridGo most 12 (1 + n % 6).toNat (1 + n / 6 % 6).toNat
def lSpots (r a : Int) : List (Int × Int) := [(r - 1, a), (r, a - 1), (r, a + 1), (r + 1, a)]
def lBeside (h w : Nat) (x : Int) : List Int :=
  ((lSpots (x / (w : Int)) (x % (w : Int))).filter fun (p : Int × Int) => (decide (0 ≤ p.1) && decide (p.1 < (h : Int))) && (decide (0 ≤ p.2) && decide (p.2 < (w : Int)))).map fun (p : Int × Int) => p.1 * (w : Int) + p.2
def lSides1 (h w : Nat) (cs : List Int) (x : Int) : Int :=
  ((lBeside h w x).length : Int) - (((lBeside h w x).filter fun o => decide (o ∈ cs) == decide (x ∈ cs)).length : Int) + (if x ∈ cs then 4 - ((lBeside h w x).length : Int) else 0)
def lNumbers (h w : Nat) (cs : List Int) : List (List Int) := (List.range h).map fun (r : Nat) => (List.range w).map fun (a : Nat) => lSides1 h w cs ((r : Int) * w + (a : Int))
/-- what the script draws -/
def lDrawn (ns : List Int) : List Int := if ns = [] then [5] else ns.take 63
def lPick (n k : Int) : Int := if k = 0 then n % 2 else if k = 1 then n % 3 else if k = 2 then 1 else n % 5
def lKeep (ns : List Int) (by_ : Int) (a : Nat) : Bool :=
  let ds := lDrawn ns
  let s := ds.sum + by_
  let n := lNumber (ds.getD (((a : Int) + by_) % (ds.length : Int)).toNat 0) ((a : Int) + by_) s / 3
  decide (0 < lPick n (s % 4))
def lCells0 (ns : List Int) (by_ : Int) (m : Nat) : List Int := ((List.range m).filter (lKeep ns by_)).map fun (a : Nat) => (a : Int)
def lCells (ns : List Int) (by_ : Int) (h w : Nat) : List Int :=
  let s := (lDrawn ns).sum + by_
  let f := lCells0 ns by_ (h * w)
  let f := if s % 4 = 2 then (f.filter fun c => decide (s / 4 % (h : Int) ≤ c / (w : Int))).filter fun c => decide (c % (w : Int) ≤ s / 8 % (w : Int)) else f
  if f = [] then [s % ((h : Int) * w)] else f
end Sd

/-! More mirrors: spread, is_inner, first_inner, is_ring. -/
namespace Sd
def spreadGo (h w : Nat) (cs : List Int) : Nat → List Int → Nat → List Int
  | 0, f, _ => f
  | k + 1, f, a =>
    match f[a]? with
    | none => f
    | some x => spreadGo h w cs k (f ++ (beside h w x).filter fun o => decide (o ∈ cs) && !decide (o ∈ f)) (a + 1)
/-- the cells come by from x within cs -/
def spread (h w : Nat) (x : Int) (cs : List Int) : List Int := spreadGo h w cs (cs.length + 2) [x] 0
def onEdge (h w : Nat) (x : Int) : Bool := decide (x < (w : Int)) || (decide ((w : Int) * ((h : Int) - 1) ≤ x) || decide (x % (w : Int) = 0 ∨ x % (w : Int) = (w : Int) - 1))
def restOf (h w : Nat) (cs : List Int) : List Int := ((List.range (h * w)).filter fun (i : Nat) => !decide ((i : Int) ∈ cs)).map fun (i : Nat) => (i : Int)
def isInner (h w : Nat) (cs : List Int) (x : Int) : Bool := (spread h w x (restOf h w cs)).all fun o => !onEdge h w o
def firstInner (h w : Nat) (cs : List Int) : Option Nat := (List.range (h * w)).find? fun (i : Nat) => !decide ((i : Int) ∈ cs) && isInner h w cs (i : Int)
def isRing (h w : Nat) (cs : List Int) : Bool := if (spread h w (cs.headD 0) cs).length < cs.length then false else (firstInner h w cs).isNone
/-! facts -/
theorem nodup_sub : ∀ {l m : List Int}, l.Nodup → (∀ o ∈ l, o ∈ m) → l.length ≤ m.length
  | [], m, _, _ => Nat.zero_le _
  | a :: r, m, hn, hs => by
    obtain ⟨h1, h2⟩ := List.nodup_cons.mp hn
    have ha := hs a List.mem_cons_self
    have := nodup_sub (m := m.erase a) h2 fun o ho => by
      have ne : o ≠ a := fun e => h1 (e ▸ ho)
      exact (List.mem_erase_of_ne ne).mpr (hs o (List.mem_cons_of_mem _ ho))
    rw [List.length_erase_of_mem ha] at this
    have : 0 < m.length := List.length_pos_of_mem ha
    rw [List.length_cons]
    omega
theorem beside_rising (h : Nat) {w : Nat} (hw : 0 < w) (x : Int) : (beside h w x).Pairwise (· < ·) := by
  unfold beside besideA besideB besideC besideD
  have m1 := Int.emod_lt_of_pos x (show (0 : Int) < (w : Int) by omega)
  have m0 := Int.emod_nonneg x (show (w : Int) ≠ 0 by omega)
  generalize x % (w : Int) = m at *
  split <;> split <;> split <;> split <;> simp <;> omega
theorem beside_nodup (h : Nat) {w : Nat} (hw : 0 < w) (x : Int) : (beside h w x).Nodup := (beside_rising h hw x).imp fun a => by omega
theorem spread_step {h w : Nat} (hw : 0 < w) {cs f : List Int} {x0 x : Int} (hn : f.Nodup) (hs : ∀ o ∈ f, o ∈ x0 :: cs) :
    (f ++ (beside h w x).filter fun o => decide (o ∈ cs) && !decide (o ∈ f)).Nodup ∧ ∀ o ∈ f ++ (beside h w x).filter fun o => decide (o ∈ cs) && !decide (o ∈ f), o ∈ x0 :: cs := by
  refine ⟨List.nodup_append.mpr ⟨hn, (beside_nodup h hw x).filter _, fun a ha b hb e => ?_⟩, fun o ho => ?_⟩
  · have := (List.mem_filter.mp hb).2
    simp only [Bool.and_eq_true, decide_eq_true_eq, Bool.not_eq_true', decide_eq_false_iff_not] at this
    exact this.2 (e ▸ ha)
  · rcases List.mem_append.mp ho with ho | ho
    · exact hs o ho
    · have := (List.mem_filter.mp ho).2
      simp only [Bool.and_eq_true, decide_eq_true_eq] at this
      exact List.mem_cons_of_mem _ this.1
theorem spreadGo_ok {h w : Nat} (hw : 0 < w) {cs : List Int} {x0 : Int} : ∀ (k : Nat) (f : List Int) (a : Nat), f.Nodup → (∀ o ∈ f, o ∈ x0 :: cs) → (spreadGo h w cs k f a).Nodup ∧ ∀ o ∈ spreadGo h w cs k f a, o ∈ x0 :: cs
  | 0, f, a, hn, hs => ⟨hn, hs⟩
  | k + 1, f, a, hn, hs => by
    unfold spreadGo
    cases f[a]? with
    | none => exact ⟨hn, hs⟩
    | some x =>
      have st := spread_step (h := h) hw (x := x) hn hs
      exact spreadGo_ok hw k _ _ st.1 st.2
theorem spread_ok (h : Nat) {w : Nat} (hw : 0 < w) (x : Int) (cs : List Int) : (spread h w x cs).Nodup ∧ ∀ o ∈ spread h w x cs, o ∈ x :: cs := spreadGo_ok hw _ _ _ (by simp) (by simp)
theorem spread_len (h : Nat) {w : Nat} (hw : 0 < w) (x : Int) (cs : List Int) : (spread h w x cs).length ≤ cs.length + 1 := nodup_sub (m := x :: cs) (spread_ok h hw x cs).1 (spread_ok h hw x cs).2
theorem restOf_len (h w : Nat) (cs : List Int) : (restOf h w cs).length ≤ h * w := by
  unfold restOf
  rw [List.length_map]
  have := List.length_filter_le (fun i : Nat => !decide ((i : Int) ∈ cs)) (List.range (h * w))
  rw [List.length_range] at this
  exact this
end Sd

/-! More mirrors: all_rings, fits, fitting_of. -/
namespace Sd
/-- the cells that a number names by its bits -/
def cellsOf (m k : Nat) : List Int := ((List.range m).filter fun (c : Nat) => decide (k / 2 ^ c % 2 = 1)).map fun (c : Nat) => (c : Int)
def ringsTo (h w i : Nat) : List (List Int) := ((List.range i).map fun j => cellsOf (h * w) (j + 1)).filter (isRing h w)
def allRings (h w : Nat) : List (List Int) := (ringsTo h w (2 ^ (h * w) - 1)).mergeSort fun p q => decide (p ≤ q)
def rowFits (row line : List Int) : Bool := !((row.zip line).any fun q => decide (0 ≤ q.1) && !decide (q.1 = q.2))
def fits (nss : List (List Int)) (cs : List Int) : Bool := (nss.zip (numbersOf nss.length (nss.headD []).length cs)).all fun p => rowFits p.1 p.2
def fittingOf (nss : List (List Int)) : List (List Int) := (allRings nss.length (nss.headD []).length).filter (fits nss)
theorem cellsOf_len (m k : Nat) : (cellsOf m k).length ≤ m := by
  unfold cellsOf
  rw [List.length_map]
  have := List.length_filter_le (fun (c : Nat) => decide (k / 2 ^ c % 2 = 1)) (List.range m)
  rw [List.length_range] at this
  exact this
theorem cellsOf_ne {m k : Nat} (h0 : 0 < k) (h1 : k < 2 ^ m) : cellsOf m k ≠ [] := by
  intro e
  unfold cellsOf at e
  have e1 := List.map_eq_nil_iff.mp e
  have all : ∀ c < m, ¬ k / 2 ^ c % 2 = 1 := fun c hc => by
    have := List.filter_eq_nil_iff.mp e1 c (List.mem_range.mpr hc)
    simpa using this
  have key : ∀ n, n ≤ m → k % 2 ^ n = 0 := by
    intro n
    induction n with
    | zero => intro _; simp [Nat.mod_one]
    | succ n ih =>
      intro hn
      have i1 := ih (by omega)
      have a := all n (by omega)
      rw [Nat.pow_succ, Nat.mod_mul, i1]
      have : k / 2 ^ n % 2 = 0 := by omega
      rw [this]
      simp
  have := key m (Nat.le_refl m)
  rw [Nat.mod_eq_of_lt h1] at this
  omega
theorem cellsOf_in {m k : Nat} : ∀ x ∈ cellsOf m k, 0 ≤ x ∧ x < (m : Int) := fun x hx => by
  unfold cellsOf at hx
  obtain ⟨c, hc, rfl⟩ := List.mem_map.mp hx
  have := List.mem_range.mp (List.mem_filter.mp hc).1
  omega
theorem cellsOf_rising (m k : Nat) : Rising (cellsOf m k) := by
  unfold Rising cellsOf
  rw [List.pairwise_map]
  exact ((List.pairwise_lt_range).filter _).imp fun h => by omega
theorem ringsTo_succ (h w i : Nat) : ringsTo h w (i + 1) = ringsTo h w i ++ if isRing h w (cellsOf (h * w) (i + 1)) = true then [cellsOf (h * w) (i + 1)] else [] := by
  unfold ringsTo
  rw [List.range_succ, List.map_append, List.filter_append]
  congr 1
  simp only [List.map_cons, List.map_nil, List.filter_cons, List.filter_nil]
theorem ringsTo_len (h w i : Nat) : (ringsTo h w i).length ≤ i := by
  unfold ringsTo
  have := List.length_filter_le (isRing h w) ((List.range i).map fun j => cellsOf (h * w) (j + 1))
  rw [List.length_map, List.length_range] at this
  exact this
theorem pow_le9 {m : Nat} (h : m ≤ 9) : 2 ^ m ≤ 512 := Nat.le_trans (Nat.pow_le_pow_right (by decide) h) (by decide)
theorem allRings_mem {h w : Nat} {cs : List Int} (hc : cs ∈ allRings h w) : ∃ k, 0 < k ∧ k < 2 ^ (h * w) ∧ cs = cellsOf (h * w) k ∧ isRing h w cs = true := by
  unfold allRings at hc
  have hc := List.mem_mergeSort.mp hc
  unfold ringsTo at hc
  obtain ⟨h1, h2⟩ := List.mem_filter.mp hc
  obtain ⟨j, hj, rfl⟩ := List.mem_map.mp h1
  have := List.mem_range.mp hj
  exact ⟨j + 1, by omega, by omega, rfl, h2⟩
theorem allRings_len (h w : Nat) (hm : h * w ≤ 9) : (allRings h w).length ≤ 512 := by
  unfold allRings
  rw [List.length_mergeSort]
  have := ringsTo_len h w (2 ^ (h * w) - 1)
  have := pow_le9 hm
  omega
theorem allRings_ok {h w : Nat} {cs : List Int} (hc : cs ∈ allRings h w) : COk h w cs := by
  obtain ⟨k, h0, h1, rfl, _⟩ := allRings_mem hc
  refine ⟨cellsOf_ne h0 h1, fun x hx => ?_, cellsOf_rising _ _⟩
  have := cellsOf_in x hx
  rw [Int.natCast_mul] at this
  exact this
end Sd

/-! More mirrors: side_ahead, walk. -/
namespace Sd
def inCell (h w : Nat) (cs : List Int) (r c : Int) : Bool := (decide (0 ≤ r) && decide (r < (h : Int))) && ((decide (0 ≤ c) && decide (c < (w : Int))) && decide (r * (w : Int) + c ∈ cs))
def pairOf (r c : Int) : Nat → (Int × Int) × (Int × Int)
  | 0 => ((r - 1, c), (r, c))
  | 1 => ((r, c), (r, c - 1))
  | 2 => ((r, c - 1), (r - 1, c - 1))
  | _ => ((r - 1, c - 1), (r - 1, c))
def sideAhead (h w : Nat) (cs : List Int) (r c : Int) (t : Nat) : Bool := inCell h w cs (pairOf r c t).1.1 (pairOf r c t).1.2 != inCell h w cs (pairOf r c t).2.1 (pairOf r c t).2.2
def stepOf : Nat → Int × Int
  | 0 => (0, 1)
  | 1 => (1, 0)
  | 2 => (0, -1)
  | _ => (-1, 0)
def ways (h w : Nat) (cs : List Int) (r c : Int) (t : Nat) : List Nat := (List.range 4).filter fun y => !decide (y = (t + 2) % 4) && sideAhead h w cs r c y
def walkGo (h w : Nat) (cs : List Int) (fr fc : Int) : Nat → List (Int × Int) → Nat → Int → Int → Option (List (Int × Int))
  | 0, _, _, _, _ => none
  | k + 1, f, t, r, c =>
    if r = fr ∧ c = fc then some f
    else match ways h w cs r c t with
      | [] => none
      | y :: _ => walkGo h w cs fr fc k (f ++ [(r, c)]) y (r + (stepOf y).1) (c + (stepOf y).2)
def walkOf (h w : Nat) (cs : List Int) : Option (List (Int × Int)) :=
  walkGo h w cs (cs.headD 0 / (w : Int)) (cs.headD 0 % (w : Int)) 200 [(cs.headD 0 / (w : Int), cs.headD 0 % (w : Int))] 0 (cs.headD 0 / (w : Int)) (cs.headD 0 % (w : Int) + 1)
theorem ways_lt {h w : Nat} {cs : List Int} {r c : Int} {t y : Nat} (hy : y ∈ ways h w cs r c t) : y < 4 := List.mem_range.mp (List.mem_filter.mp hy).1
end Sd

/-! The ring theorem, first part: sets of cells of the plane, their rims, the walk with the cells at the right hand, even sets of sides.
No Python here. -/
namespace Sd.J
abbrev Cell := Int × Int
/-- the cell beside, across side 0 (above), 1 (right), 2 (below), 3 (left) -/
def nb (x : Cell) (s : Fin 4) : Cell :=
  match s with
  | 0 => (x.1 - 1, x.2)
  | 1 => (x.1, x.2 + 1)
  | 2 => (x.1 + 1, x.2)
  | 3 => (x.1, x.2 - 1)
theorem fin4 (P : Fin 4 → Prop) (h0 : P 0) (h1 : P 1) (h2 : P 2) (h3 : P 3) : ∀ s, P s
  | 0 => h0
  | 1 => h1
  | 2 => h2
  | 3 => h3
theorem nb_back (x : Cell) (s : Fin 4) : nb (nb x s) (s + 2) = x := by
  revert s
  refine fin4 _ ?_ ?_ ?_ ?_ <;> (obtain ⟨r, c⟩ := x; refine Prod.ext ?_ ?_ <;> simp only [nb, Fin.reduceAdd] <;> omega)
theorem nb_back3 (x : Cell) (s : Fin 4) : nb (nb x (s + 1)) (s + 3) = x := by
  revert s
  refine fin4 _ ?_ ?_ ?_ ?_ <;> (obtain ⟨r, c⟩ := x; refine Prod.ext ?_ ?_ <;> simp only [nb, Fin.reduceAdd] <;> omega)
theorem nb_back1 (x : Cell) (s : Fin 4) : nb (nb x (s + 3)) (s + 1) = x := by
  revert s
  refine fin4 _ ?_ ?_ ?_ ?_ <;> (obtain ⟨r, c⟩ := x; refine Prod.ext ?_ ?_ <;> simp only [nb, Fin.reduceAdd] <;> omega)
theorem nb_comm (x : Cell) (s t : Fin 4) : nb (nb x s) t = nb (nb x t) s := by
  revert s t
  refine fin4 _ ?_ ?_ ?_ ?_ <;> refine fin4 _ ?_ ?_ ?_ ?_ <;> (obtain ⟨r, c⟩ := x; refine Prod.ext ?_ ?_ <;> simp only [nb] <;> omega)
theorem f13 (s : Fin 4) : s + 1 + 3 = s := by revert s; decide
theorem f31 (s : Fin 4) : s + 3 + 1 = s := by revert s; decide
theorem f33 (s : Fin 4) : s + 3 + 3 = s + 2 := by revert s; decide
theorem f11 (s : Fin 4) : s + 1 + 1 = s + 2 := by revert s; decide
theorem f22 (s : Fin 4) : s + 2 + 2 = s := by revert s; decide
theorem f12 (s : Fin 4) : s + 1 + 2 = s + 3 := by revert s; decide
theorem f32 (s : Fin 4) : s + 3 + 2 = s + 1 := by revert s; decide
/-- a side of a cell, told with its cell: gone along with the cell at the right hand -/
abbrev Side := Cell × Fin 4
def Rim (S : Cell → Bool) (e : Side) : Prop := S e.1 = true ∧ S (nb e.1 e.2) = false
def succ (S : Cell → Bool) (e : Side) : Side :=
  if S (nb e.1 (e.2 + 1)) = false then (e.1, e.2 + 1)
  else if S (nb (nb e.1 (e.2 + 1)) e.2) = false then (nb e.1 (e.2 + 1), e.2)
  else (nb (nb e.1 (e.2 + 1)) e.2, e.2 + 3)
def pred (S : Cell → Bool) (e : Side) : Side :=
  if S (nb e.1 (e.2 + 3)) = false then (e.1, e.2 + 3)
  else if S (nb (nb e.1 (e.2 + 3)) e.2) = false then (nb e.1 (e.2 + 3), e.2)
  else (nb (nb e.1 (e.2 + 3)) e.2, e.2 + 1)
section
variable {S : Cell → Bool}
theorem nf {b : Bool} (h : ¬ b = false) : b = true := by cases b <;> simp_all
theorem succ_rim {e : Side} (h : Rim S e) : Rim S (succ S e) := by
  obtain ⟨x, s⟩ := e
  obtain ⟨h1, h2⟩ := h
  unfold succ
  dsimp only at *
  split
  · exact ⟨h1, by assumption⟩
  · rename_i a
    split
    · exact ⟨nf a, by assumption⟩
    · rename_i b
      refine ⟨nf b, ?_⟩
      show S (nb (nb (nb x (s + 1)) s) (s + 3)) = false
      rw [nb_comm x (s + 1) s, nb_back3]
      exact h2
theorem pred_rim {e : Side} (h : Rim S e) : Rim S (pred S e) := by
  obtain ⟨x, s⟩ := e
  obtain ⟨h1, h2⟩ := h
  unfold pred
  dsimp only at *
  split
  · exact ⟨h1, by assumption⟩
  · rename_i a
    split
    · exact ⟨nf a, by assumption⟩
    · rename_i b
      refine ⟨nf b, ?_⟩
      show S (nb (nb (nb x (s + 3)) s) (s + 1)) = false
      rw [nb_comm x (s + 3) s, nb_back1]
      exact h2
theorem tf {b : Bool} (h : b = true) : ¬ b = false := by simp [h]
theorem succ_pred {e : Side} (h : Rim S e) : succ S (pred S e) = e := by
  obtain ⟨x, s⟩ := e
  obtain ⟨h1, h2⟩ := h
  unfold pred
  dsimp only at *
  split
  · unfold succ
    dsimp only
    rw [f31, if_pos h2]
  · rename_i a
    split
    · unfold succ
      dsimp only
      rw [nb_back1, if_neg (tf h1), if_pos h2]
    · rename_i b
      unfold succ
      dsimp only
      have e1 : nb (nb (nb x (s + 3)) s) (s + 1 + 1) = nb x (s + 3) := by rw [f11]; exact nb_back _ s
      rw [e1, if_neg a, nb_back1, if_neg (tf h1), f13]
theorem pred_succ {e : Side} (h : Rim S e) : pred S (succ S e) = e := by
  obtain ⟨x, s⟩ := e
  obtain ⟨h1, h2⟩ := h
  unfold succ
  dsimp only at *
  split
  · unfold pred
    dsimp only
    rw [f13, if_pos h2]
  · rename_i a
    split
    · unfold pred
      dsimp only
      rw [nb_back3, if_neg (tf h1), if_pos h2]
    · rename_i b
      unfold pred
      dsimp only
      have e1 : nb (nb (nb x (s + 1)) s) (s + 3 + 3) = nb x (s + 1) := by rw [f33]; exact nb_back _ s
      rw [e1, if_neg a, nb_back3, if_neg (tf h1), f31]
theorem succ_inj {e f : Side} (he : Rim S e) (hf : Rim S f) (h : succ S e = succ S f) : e = f := by
  rw [← pred_succ he, ← pred_succ hf, h]
/-- where a side begins, where it ends -/
def tail (e : Side) : Int × Int :=
  match e.2 with
  | 0 => (e.1.1, e.1.2)
  | 1 => (e.1.1, e.1.2 + 1)
  | 2 => (e.1.1 + 1, e.1.2 + 1)
  | 3 => (e.1.1 + 1, e.1.2)
def head (e : Side) : Int × Int := tail (e.1, e.2 + 1)
theorem tail_succ (e : Side) : tail (succ S e) = head e := by
  obtain ⟨x, s⟩ := e
  unfold succ head
  dsimp only
  split
  · rfl
  · split
    · revert s
      refine fin4 _ ?_ ?_ ?_ ?_ <;> intros <;> (obtain ⟨r, c⟩ := x; refine Prod.ext ?_ ?_ <;> simp only [nb, tail, Fin.reduceAdd] <;> omega)
    · revert s
      refine fin4 _ ?_ ?_ ?_ ?_ <;> intros <;> (obtain ⟨r, c⟩ := x; refine Prod.ext ?_ ?_ <;> simp only [nb, tail, Fin.reduceAdd] <;> omega)
/-- the four cells round a point: above left a, above right nb a 1, below right nb (nb a 1) 2, below left nb a 2 -/
def Deg4 (S : Cell → Bool) (a : Cell) : Prop := S a = S (nb (nb a 1) 2) ∧ S (nb a 1) = S (nb a 2) ∧ S a ≠ S (nb a 1)
/-! ### even sets of sides -/
open Classical in
/-- whether the side between a cell and the one beside is in C -/
noncomputable def Kr (C : Side → Prop) (x : Cell) (s : Fin 4) : Bool := decide (C (x, s) ∨ C (nb x s, s + 2))
open Classical in
theorem kr_true {C : Side → Prop} {x : Cell} {s : Fin 4} : Kr C x s = true ↔ (C (x, s) ∨ C (nb x s, s + 2)) := by
  unfold Kr
  exact decide_eq_true_iff
theorem kr_false {C : Side → Prop} {x : Cell} {s : Fin 4} (h : ¬ (C (x, s) ∨ C (nb x s, s + 2))) : Kr C x s = false := by
  cases e : Kr C x s with
  | false => rfl
  | true => exact absurd (kr_true.mp e) h
theorem kr_sym (C : Side → Prop) (x : Cell) (s : Fin 4) : Kr C (nb x s) (s + 2) = Kr C x s := by
  unfold Kr
  congr 1
  rw [nb_back, f22]
  exact propext ⟨fun h => h.symm, fun h => h.symm⟩
def EvenAt (C : Side → Prop) (a : Cell) : Prop := ((Kr C a 1 ^^ Kr C (nb a 1) 2) ^^ (Kr C (nb a 2) 1 ^^ Kr C a 2)) = false
def Even (C : Side → Prop) : Prop := ∀ a, EvenAt C a
/-- a set of cells lies within so many rows and columns -/
def Within (h w : Int) (S : Cell → Bool) : Prop := ∀ x, S x = true → (0 ≤ x.1 ∧ x.1 < h) ∧ (0 ≤ x.2 ∧ x.2 < w)
def inG (h w : Int) (x : Cell) : Prop := (0 ≤ x.1 ∧ x.1 < h) ∧ (0 ≤ x.2 ∧ x.2 < w)
/-- parities along a row -/
noncomputable def par (C : Side → Prop) (r : Int) : Nat → Bool
  | 0 => false
  | n + 1 => par C r n ^^ Kr C (r, (n : Int) - 1) 1
noncomputable def pot (C : Side → Prop) (x : Cell) : Bool := par C x.1 (x.2 + 1).toNat
theorem kr_out {C : Side → Prop} (hC : ∀ e, C e → Rim S e) {x : Cell} {s : Fin 4} (h1 : S x = false) (h2 : S (nb x s) = false) : Kr C x s = false := by
  refine kr_false fun h => ?_
  rcases h with h | h
  · have := (hC _ h).1
    rw [h1] at this
    cases this
  · have := (hC _ h).1
    rw [h2] at this
    cases this
theorem kr_in {C : Side → Prop} (hC : ∀ e, C e → Rim S e) {x : Cell} {s : Fin 4} (h1 : S x = true) (h2 : S (nb x s) = true) : Kr C x s = false := by
  refine kr_false fun h => ?_
  rcases h with h | h
  · have := (hC _ h).2
    dsimp only at this
    rw [h2] at this
    cases this
  · have := (hC _ h).2
    dsimp only at this
    rw [nb_back, h1] at this
    cases this
theorem out_false {h w : Int} (hS : Within h w S) {x : Cell} (hx : ¬ inG h w x) : S x = false := by
  cases hs : S x with
  | false => rfl
  | true => exact absurd (hS x hs) hx
variable {C : Side → Prop} {h w : Int}
theorem pot_neg {r c : Int} (hc : c < 0) : pot C (r, c) = false := by
  unfold pot
  have : ((r, c).2 + 1).toNat = 0 := by show (c + 1).toNat = 0; omega
  rw [this]
  rfl
theorem pot_h (hS : Within h w S) (hC : ∀ e, C e → Rim S e) (r c : Int) : (pot C (r, c) ^^ pot C (r, c - 1)) = Kr C (r, c - 1) 1 := by
  by_cases hc : c < 0
  · rw [pot_neg hc, pot_neg (by omega : c - 1 < 0)]
    refine (kr_out hC (out_false hS ?_) (out_false hS ?_)).symm
    · unfold inG; dsimp only; omega
    · unfold inG nb; dsimp only; omega
  · unfold pot
    obtain ⟨n, hn⟩ : ∃ n : Nat, c = (n : Int) := ⟨c.toNat, by omega⟩
    subst hn
    have e1 : (((r, (n : Int)) : Cell).2 + 1).toNat = n + 1 := by show ((n : Int) + 1).toNat = n + 1; omega
    have e2 : (((r, (n : Int) - 1) : Cell).2 + 1).toNat = n := by show ((n : Int) - 1 + 1).toNat = n; omega
    rw [e1, e2]
    show ((par C r n ^^ Kr C (r, (n : Int) - 1) 1) ^^ par C r n) = _
    cases par C r n <;> cases Kr C (r, (n : Int) - 1) 1 <;> rfl
theorem par_v (hS : Within h w S) (hC : ∀ e, C e → Rim S e) (hE : Even C) (r : Int) : ∀ n : Nat, (par C r n ^^ par C (r - 1) n) = Kr C (r - 1, (n : Int) - 1) 2
  | 0 => by
    refine (kr_out hC (out_false hS ?_) (out_false hS ?_)).symm
    · unfold inG; dsimp only; omega
    · unfold inG nb; dsimp only; omega
  | n + 1 => by
    have ih := par_v hS hC hE r n
    have ev := hE (r - 1, (n : Int) - 1)
    unfold EvenAt at ev
    have e1 : nb (r - 1, (n : Int) - 1) 1 = (r - 1, (n : Int)) := by refine Prod.ext ?_ ?_ <;> simp only [nb] <;> omega
    have e2 : nb (r - 1, (n : Int) - 1) 2 = (r, (n : Int) - 1) := by refine Prod.ext ?_ ?_ <;> simp only [nb] <;> omega
    have e3 : (((n + 1 : Nat) : Int) - 1) = (n : Int) := by omega
    rw [e1, e2] at ev
    rw [e3]
    show ((par C r n ^^ Kr C (r, (n : Int) - 1) 1) ^^ (par C (r - 1) n ^^ Kr C (r - 1, (n : Int) - 1) 1)) = _
    revert ih ev
    cases par C r n <;> cases par C (r - 1) n <;> cases Kr C (r, (n : Int) - 1) 1 <;> cases Kr C (r - 1, (n : Int) - 1) 1 <;> cases Kr C (r - 1, (n : Int)) 2 <;> cases Kr C (r - 1, (n : Int) - 1) 2 <;> decide
theorem pot_v (hS : Within h w S) (hC : ∀ e, C e → Rim S e) (hE : Even C) (r c : Int) : (pot C (r, c) ^^ pot C (r - 1, c)) = Kr C (r - 1, c) 2 := by
  by_cases hc : c < 0
  · rw [pot_neg hc, pot_neg hc]
    refine (kr_out hC (out_false hS ?_) (out_false hS ?_)).symm
    · unfold inG; dsimp only; omega
    · unfold inG nb; dsimp only; omega
  · have := par_v hS hC hE r (c + 1).toNat
    rw [show (((c + 1).toNat : Nat) : Int) - 1 = c by omega] at this
    exact this
theorem pot_nb (hS : Within h w S) (hC : ∀ e, C e → Rim S e) (hE : Even C) (x : Cell) (s : Fin 4) : (pot C x ^^ pot C (nb x s)) = Kr C x s := by
  obtain ⟨r, c⟩ := x
  revert s
  refine fin4 _ ?_ ?_ ?_ ?_
  · have := pot_v hS hC hE r c
    rw [← kr_sym C (r, c) 0]
    exact this
  · have := pot_h hS hC r (c + 1)
    rw [show c + 1 - 1 = c by omega] at this
    rw [← this, Bool.xor_comm]
    rfl
  · have := pot_v hS hC hE (r + 1) c
    rw [show r + 1 - 1 = r by omega] at this
    rw [← this, Bool.xor_comm]
    rfl
  · have := pot_h hS hC r c
    rw [← kr_sym C (r, c) 3]
    exact this
theorem par_row (hC : ∀ e, C e → Rim S e) (r : Int) (hr : ∀ c, S (r, c) = false) : ∀ n : Nat, par C r n = false
  | 0 => rfl
  | n + 1 => by
    show (par C r n ^^ Kr C (r, (n : Int) - 1) 1) = false
    rw [par_row hC r hr n, kr_out hC (hr _) (show S (nb (r, (n : Int) - 1) 1) = false from hr _)]
    rfl
theorem pot_row (hC : ∀ e, C e → Rim S e) {r : Int} (hr : ∀ c, S (r, c) = false) (c : Int) : pot C (r, c) = false := par_row hC r hr _
theorem pot_out (hS : Within h w S) (hC : ∀ e, C e → Rim S e) (hE : Even C) {x : Cell} (hx : ¬ inG h w x) : pot C x = false := by
  obtain ⟨r, c⟩ := x
  by_cases hc : c < 0
  · exact pot_neg hc
  by_cases hr : r < 0 ∨ h ≤ r
  · refine pot_row hC (fun c' => out_false hS ?_) c
    unfold inG
    dsimp only
    omega
  have hw : w ≤ c := by
    unfold inG at hx
    dsimp only at hx
    omega
  have key : ∀ n : Nat, pot C ((n : Int) - 1, c) = false := by
    intro n
    induction n with
    | zero =>
      refine pot_row hC (fun c' => out_false hS ?_) c
      unfold inG
      dsimp only
      omega
    | succ n ih =>
      have := pot_v hS hC hE (((n + 1 : Nat) : Int) - 1) c
      rw [show (((n + 1 : Nat) : Int) - 1) - 1 = (n : Int) - 1 by omega, ih] at this
      rw [kr_out hC (out_false hS ?_) (out_false hS ?_)] at this
      · revert this
        cases pot C (((n + 1 : Nat) : Int) - 1, c) <;> simp
      · unfold inG; dsimp only; omega
      · unfold inG nb; dsimp only; omega
  have := key (r + 1).toNat
  rw [show (((r + 1).toNat : Nat) : Int) - 1 = r by omega] at this
  exact this
/-! ### hanging together -/
inductive Reach (A : Cell → Prop) : Cell → Cell → Prop
  | refl {x : Cell} (h : A x) : Reach A x x
  | step {x y : Cell} (s : Fin 4) (h : Reach A x y) (hy : A (nb y s)) : Reach A x (nb y s)
theorem Reach.start {A : Cell → Prop} {x y : Cell} (h : Reach A x y) : A x := by
  induction h with
  | refl h => exact h
  | step s h hy ih => exact ih
theorem Reach.stop {A : Cell → Prop} {x y : Cell} (h : Reach A x y) : A y := by
  cases h with
  | refl h => exact h
  | step s h hy => exact hy
/-- what is none of the cells, within the grid -/
def Rest (h w : Int) (S : Cell → Bool) (x : Cell) : Prop := inG h w x ∧ S x = false
def Edge (h w : Int) (x : Cell) : Prop := ∃ s, ¬ inG h w (nb x s)
structure Good (h w : Int) (S : Cell → Bool) : Prop where
  one : ∀ x y, S x = true → S y = true → Reach (fun z => S z = true) x y
  out : ∀ x, Rest h w S x → ∃ y, Reach (Rest h w S) x y ∧ Edge h w y
/-- no even set of rim sides but none and all -/
def Min (S : Cell → Bool) : Prop := ∀ C : Side → Prop, (∀ e, C e → Rim S e) → Even C → (∃ e, C e) → ∀ e, Rim S e → C e
theorem xor_eq {a b : Bool} (h : (a ^^ b) = false) : a = b := by cases a <;> cases b <;> simp_all
theorem good_min (hS : Within h w S) (g : Good h w S) : Min S := by
  intro C hC hE ⟨e0, he0⟩ e he
  have T := pot_nb hS hC hE
  have onS : ∀ x y, Reach (fun z => S z = true) x y → pot C x = pot C y := by
    intro x y hr
    induction hr with
    | refl h => rfl
    | @step y s h hy ih =>
      have t := T y s
      rw [kr_in hC h.stop hy] at t
      rw [ih]
      exact xor_eq t
  have onR : ∀ x y, Reach (Rest h w S) x y → pot C x = pot C y := by
    intro x y hr
    induction hr with
    | refl h => rfl
    | @step y s h hy ih =>
      have t := T y s
      rw [kr_out hC h.stop.2 hy.2] at t
      rw [ih]
      exact xor_eq t
  have off : ∀ x, S x = false → pot C x = false := by
    intro x hx
    by_cases hg : inG h w x
    · obtain ⟨y, hy, s, hs⟩ := g.out x ⟨hg, hx⟩
      rw [onR x y hy]
      have t := T y s
      rw [kr_out hC hy.stop.2 (out_false hS hs), pot_out hS hC hE hs] at t
      exact xor_eq t
    · exact pot_out hS hC hE hg
  have r0 := hC e0 he0
  have p0 : pot C e0.1 = true := by
    have t := T e0.1 e0.2
    rw [off _ r0.2] at t
    have k : Kr C e0.1 e0.2 = true := kr_true.mpr (.inl he0)
    rw [k] at t
    revert t
    cases pot C e0.1 <;> simp
  have p1 : pot C e.1 = true := by rw [← onS e0.1 e.1 (g.one _ _ r0.1 he.1)]; exact p0
  have t := T e.1 e.2
  rw [off _ he.2, p1] at t
  have k : Kr C e.1 e.2 = true := by rw [← t]; rfl
  rcases kr_true.mp k with z | z
  · exact z
  · have := (hC _ z).1
    dsimp only at this
    rw [he.2] at this
    cases this
theorem even_of {f : Cell → Bool} (hk : ∀ x s, Kr C x s = (f x ^^ f (nb x s))) : Even C := by
  intro a
  unfold EvenAt
  rw [hk, hk, hk, hk, nb_comm a 2 1]
  cases f a <;> cases f (nb a 1) <;> cases f (nb (nb a 1) 2) <;> cases f (nb a 2) <;> rfl
open Classical in
theorem min_one (hS : Within h w S) (m : Min S) {x0 : Cell} (h0 : S x0 = true) : ∀ y, S y = true → Reach (fun z => S z = true) x0 y := by
  have A := fun y => Reach (fun z => S z = true) x0 y
  have go : ∀ y s, Reach (fun z => S z = true) x0 y → S (nb y s) = true → Reach (fun z => S z = true) x0 (nb y s) := fun y s h1 h2 => .step s h1 h2
  have sub : ∀ e : Side, (Reach (fun z => S z = true) x0 e.1 ∧ ¬ Reach (fun z => S z = true) x0 (nb e.1 e.2)) → Rim S e := fun e he => by
    refine ⟨he.1.stop, ?_⟩
    cases hs : S (nb e.1 e.2) with
    | false => rfl
    | true => exact absurd (go _ _ he.1 hs) he.2
  have ev : Even (fun e : Side => Reach (fun z => S z = true) x0 e.1 ∧ ¬ Reach (fun z => S z = true) x0 (nb e.1 e.2)) := by
    refine even_of (f := fun y => decide (Reach (fun z => S z = true) x0 y)) fun x s => ?_
    rw [Bool.eq_iff_iff, kr_true]
    dsimp only
    rw [nb_back]
    by_cases a : Reach (fun z => S z = true) x0 x <;> by_cases b : Reach (fun z => S z = true) x0 (nb x s) <;> simp [a, b]
  have ne : ∃ e : Side, Reach (fun z => S z = true) x0 e.1 ∧ ¬ Reach (fun z => S z = true) x0 (nb e.1 e.2) := by
    have key : ∀ (n : Nat) (x : Cell), x.2 < (n : Int) → Reach (fun z => S z = true) x0 x → ∃ e : Side, Reach (fun z => S z = true) x0 e.1 ∧ ¬ Reach (fun z => S z = true) x0 (nb e.1 e.2) := by
      intro n
      induction n with
      | zero =>
        intro x hx hr
        have := hS x hr.stop
        omega
      | succ n ih =>
        intro x hx hr
        by_cases hl : Reach (fun z => S z = true) x0 (nb x 3)
        · refine ih (nb x 3) ?_ hl
          simp only [nb]
          omega
        · exact ⟨(x, 3), hr, hl⟩
    exact key (x0.2 + 1).toNat x0 (by omega) (.refl h0)
  have all := m _ sub ev ne
  have key : ∀ (n : Nat) (y : Cell), y.2 < (n : Int) → S y = true → Reach (fun z => S z = true) x0 y := by
    intro n
    induction n with
    | zero =>
      intro y hy hs
      have := hS y hs
      omega
    | succ n ih =>
      intro y hy hs
      cases hl : S (nb y 3) with
      | false => exact (all (y, 3) ⟨hs, hl⟩).1
      | true =>
        have := ih (nb y 3) (by simp only [nb]; omega) hl
        have w := Reach.step 1 this (by rw [show nb (nb y 3) 1 = y from nb_back y 3]; exact hs)
        rw [show nb (nb y 3) 1 = y from nb_back y 3] at w
        exact w
  exact fun y hy => key (y.2 + 1).toNat y (by omega) hy
open Classical in
theorem min_out (hS : Within h w S) (m : Min S) (b : Cell) (hb : Rest h w S b) : ∃ y, Reach (Rest h w S) b y ∧ Edge h w y := by
  refine Classical.byContradiction fun hn => ?_
  have ne : ∀ y, Reach (Rest h w S) b y → ∀ s, inG h w (nb y s) := fun y hy s => Classical.byContradiction fun z => hn ⟨y, hy, s, z⟩
  have nx : ∀ y s, Reach (Rest h w S) b y → ¬ Reach (Rest h w S) b (nb y s) → S (nb y s) = true := fun y s hy hs => by
    cases e : S (nb y s) with
    | true => rfl
    | false => exact absurd (Reach.step s hy ⟨ne y hy s, e⟩) hs
  have sub : ∀ e : Side, (S e.1 = true ∧ Reach (Rest h w S) b (nb e.1 e.2)) → Rim S e := fun e he => ⟨he.1, he.2.stop.2⟩
  have ev : Even (fun e : Side => S e.1 = true ∧ Reach (Rest h w S) b (nb e.1 e.2)) := by
    refine even_of (f := fun y => decide (Reach (Rest h w S) b y)) fun x s => ?_
    rw [Bool.eq_iff_iff, kr_true]
    dsimp only
    rw [nb_back]
    by_cases p : Reach (Rest h w S) b x <;> by_cases q : Reach (Rest h w S) b (nb x s)
    · have s1 := p.stop.2
      have s2 := q.stop.2
      simp [p, q, s1, s2]
    · have s2 := nx x s p q
      simp [p, q, s2]
    · have s1 : S x = true := by
        have := nx (nb x s) (s + 2) q (by rw [nb_back]; exact p)
        rw [nb_back] at this
        exact this
      simp [p, q, s1]
    · simp [p, q]
  have nonem : ∃ e : Side, S e.1 = true ∧ Reach (Rest h w S) b (nb e.1 e.2) := by
    have key : ∀ (n : Nat) (x : Cell), x.2 < (n : Int) → Reach (Rest h w S) b x → ∃ e : Side, S e.1 = true ∧ Reach (Rest h w S) b (nb e.1 e.2) := by
      intro n
      induction n with
      | zero =>
        intro x hx hr
        have := hr.stop.1.2
        omega
      | succ n ih =>
        intro x hx hr
        by_cases hl : Reach (Rest h w S) b (nb x 3)
        · refine ih (nb x 3) ?_ hl
          simp only [nb]
          omega
        · refine ⟨(nb x 3, 1), nx x 3 hr hl, ?_⟩
          rw [show nb (nb x 3) 1 = x from nb_back x 3]
          exact hr
    exact key (b.2 + 1).toNat b (by omega) (.refl hb)
  have all := m _ sub ev nonem
  obtain ⟨e, he, _⟩ := nonem
  have up : ∀ (n : Nat) (x : Cell), x.1 < (n : Int) → S x = true ∨ Reach (Rest h w S) b x → False := by
    intro n
    induction n with
    | zero =>
      intro x hx hr
      rcases hr with hr | hr
      · have := (hS x hr).1
        omega
      · have := hr.stop.1.1
        omega
    | succ n ih =>
      intro x hx hr
      refine ih (nb x 0) (by simp only [nb]; omega) ?_
      rcases hr with hr | hr
      · cases hs : S (nb x 0) with
        | true => exact .inl rfl
        | false => exact .inr (all (x, 0) ⟨hr, hs⟩).2
      · by_cases hs : Reach (Rest h w S) b (nb x 0)
        · exact .inr hs
        · exact .inl (nx x 0 hr hs)
  exact up (e.1.1 + 1).toNat e.1 (by omega) (.inl he)
theorem min_good (hS : Within h w S) (m : Min S) : Good h w S := ⟨fun x y hx hy => min_one hS m hx y hy, fun x hx => min_out hS m x hx⟩
end
end Sd.J

/-! The ring theorem, second part: orbits of the walk; no point met twice. -/
namespace Sd.J
theorem least {P : Nat → Prop} (h : ∃ n, P n) : ∃ n, P n ∧ ∀ m, m < n → ¬ P m := by
  obtain ⟨n, hn⟩ := h
  induction n using Nat.strongRecOn with
  | _ n ih =>
    by_cases hm : ∃ m, m < n ∧ P m
    · obtain ⟨m, h1, h2⟩ := hm
      exact ih m h1 h2
    · exact ⟨n, hn, fun m h1 h2 => hm ⟨m, h1, h2⟩⟩
theorem nodup_len {α : Type} [DecidableEq α] : ∀ {l m : List α}, l.Nodup → (∀ o ∈ l, o ∈ m) → l.length ≤ m.length
  | [], m, _, _ => Nat.zero_le _
  | a :: r, m, hn, hs => by
    obtain ⟨h1, h2⟩ := List.nodup_cons.mp hn
    have ha := hs a List.mem_cons_self
    have := nodup_len (m := m.erase a) h2 fun o ho => by
      have ne : o ≠ a := fun e => h1 (e ▸ ho)
      exact (List.mem_erase_of_ne ne).mpr (hs o (List.mem_cons_of_mem _ ho))
    rw [List.length_erase_of_mem ha] at this
    have : 0 < m.length := List.length_pos_of_mem ha
    rw [List.length_cons]
    omega
section
variable {S : Cell → Bool} {C : Side → Prop}
open Classical in
noncomputable def cb (C : Side → Prop) (e : Side) : Bool := decide (C e)
open Classical in
theorem cb_true {e : Side} : cb C e = true ↔ C e := by
  unfold cb
  exact decide_eq_true_iff
theorem cb_eq {e f : Side} (h : C e ↔ C f) : cb C e = cb C f := by
  rw [Bool.eq_iff_iff, cb_true, cb_true]
  exact h
theorem kr_val (hC : ∀ e, C e → Rim S e) (x : Cell) (s : Fin 4) : Kr C x s = (if S x = true then (if S (nb x s) = true then false else cb C (x, s)) else (if S (nb x s) = true then cb C (nb x s, s + 2) else false)) := by
  by_cases h1 : S x = true
  · by_cases h2 : S (nb x s) = true
    · rw [if_pos h1, if_pos h2]
      exact kr_in hC h1 h2
    · rw [if_pos h1, if_neg h2]
      rw [Bool.eq_iff_iff, kr_true, cb_true]
      refine ⟨fun h => h.elim id fun z => ?_, .inl⟩
      exact absurd (hC _ z).1 h2
  · by_cases h2 : S (nb x s) = true
    · rw [if_neg h1, if_pos h2]
      rw [Bool.eq_iff_iff, kr_true, cb_true]
      refine ⟨fun h => h.elim (fun z => ?_) id, .inr⟩
      exact absurd (hC _ z).1 h1
    · rw [if_neg h1, if_neg h2]
      exact kr_out hC (by cases e : S x <;> simp_all) (by cases e : S (nb x s) <;> simp_all)
/-- the four sides that end at the point below right of a: of a, of the cells beside -/
def InAt (C : Side → Prop) (S : Cell → Bool) (a : Cell) : Prop :=
  (S a = true → S (nb a 1) = false → cb C (a, 1) = cb C (succ S (a, 1))) ∧ (S (nb a 1) = true → S (nb (nb a 1) 2) = false → cb C (nb a 1, 2) = cb C (succ S (nb a 1, 2))) ∧
  (S (nb (nb a 1) 2) = true → S (nb a 2) = false → cb C (nb (nb a 1) 2, 3) = cb C (succ S (nb (nb a 1) 2, 3))) ∧ (S (nb a 2) = true → S a = false → cb C (nb a 2, 0) = cb C (succ S (nb a 2, 0)))
theorem nb_c3 (a : Cell) : nb (nb (nb a 1) 2) 3 = nb a 2 := by
  refine Prod.ext ?_ ?_ <;> simp only [nb] <;> omega
theorem nb_c0 (a : Cell) : nb (nb (nb a 1) 2) 0 = nb a 1 := by
  refine Prod.ext ?_ ?_ <;> simp only [nb] <;> omega
theorem nb_b3 (a : Cell) : nb (nb a 1) 3 = a := by
  refine Prod.ext ?_ ?_ <;> simp only [nb] <;> omega
theorem nb_d1 (a : Cell) : nb (nb a 2) 1 = nb (nb a 1) 2 := by
  refine Prod.ext ?_ ?_ <;> simp only [nb] <;> omega
theorem nb_d0 (a : Cell) : nb (nb a 2) 0 = a := by
  refine Prod.ext ?_ ?_ <;> simp only [nb] <;> omega
theorem nb_a2 (a : Cell) : nb a 2 = nb a 2 := rfl
theorem succ_a (a : Cell) : succ S (a, 1) = if S (nb a 2) = false then (a, 2) else if S (nb (nb a 1) 2) = false then (nb a 2, 1) else (nb (nb a 1) 2, 0) := by
  show (if S (nb a 2) = false then ((a, 2) : Side) else if S (nb (nb a 2) 1) = false then (nb a 2, 1) else (nb (nb a 2) 1, 0)) = _
  rw [nb_d1]
theorem succ_b (a : Cell) : succ S (nb a 1, 2) = if S a = false then (nb a 1, 3) else if S (nb a 2) = false then (a, 2) else (nb a 2, 1) := by
  show (if S (nb (nb a 1) 3) = false then ((nb a 1, 3) : Side) else if S (nb (nb (nb a 1) 3) 2) = false then (nb (nb a 1) 3, 2) else (nb (nb (nb a 1) 3) 2, 1)) = _
  rw [nb_b3]
theorem succ_c (a : Cell) : succ S (nb (nb a 1) 2, 3) = if S (nb a 1) = false then (nb (nb a 1) 2, 0) else if S a = false then (nb a 1, 3) else (a, 2) := by
  show (if S (nb (nb (nb a 1) 2) 0) = false then ((nb (nb a 1) 2, 0) : Side) else if S (nb (nb (nb (nb a 1) 2) 0) 3) = false then (nb (nb (nb a 1) 2) 0, 3) else (nb (nb (nb (nb a 1) 2) 0) 3, 2)) = _
  rw [nb_c0, nb_b3]
theorem succ_d (a : Cell) : succ S (nb a 2, 0) = if S (nb (nb a 1) 2) = false then (nb a 2, 1) else if S (nb a 1) = false then (nb (nb a 1) 2, 0) else (nb a 1, 3) := by
  show (if S (nb (nb a 2) 1) = false then ((nb a 2, 1) : Side) else if S (nb (nb (nb a 2) 1) 0) = false then (nb (nb a 2) 1, 0) else (nb (nb (nb a 2) 1) 0, 3)) = _
  rw [nb_d1, nb_c0]
theorem even_eq (hC : ∀ e, C e → Rim S e) (a : Cell) : EvenAt C a ↔
    (((if S a = true then (if S (nb a 1) = true then false else cb C (a, 1)) else (if S (nb a 1) = true then cb C (nb a 1, 3) else false)) ^^
      (if S (nb a 1) = true then (if S (nb (nb a 1) 2) = true then false else cb C (nb a 1, 2)) else (if S (nb (nb a 1) 2) = true then cb C (nb (nb a 1) 2, 0) else false))) ^^
     ((if S (nb a 2) = true then (if S (nb (nb a 1) 2) = true then false else cb C (nb a 2, 1)) else (if S (nb (nb a 1) 2) = true then cb C (nb (nb a 1) 2, 3) else false)) ^^
      (if S a = true then (if S (nb a 2) = true then false else cb C (a, 2)) else (if S (nb a 2) = true then cb C (nb a 2, 0) else false)))) = false := by
  unfold EvenAt
  rw [kr_val hC a 1, kr_val hC (nb a 1) 2, kr_val hC (nb a 2) 1, kr_val hC a 2, nb_d1]
  rfl
theorem even_closed (hC : ∀ e, C e → Rim S e) {a : Cell} (h : InAt C S a) : EvenAt C a := by
  rw [even_eq hC]
  obtain ⟨h1, h2, h3, h4⟩ := h
  rw [succ_a] at h1
  rw [succ_b] at h2
  rw [succ_c] at h3
  rw [succ_d] at h4
  revert h1 h2 h3 h4
  cases S a <;> cases S (nb a 1) <;> cases S (nb (nb a 1) 2) <;> cases S (nb a 2) <;> simp <;> intros <;> simp_all
theorem closed_even (hC : ∀ e, C e → Rim S e) {a : Cell} (nd : ¬ Deg4 S a) (h : EvenAt C a) : InAt C S a := by
  rw [even_eq hC] at h
  unfold InAt
  rw [succ_a, succ_b, succ_c, succ_d]
  unfold Deg4 at nd
  revert h nd
  cases S a <;> cases S (nb a 1) <;> cases S (nb (nb a 1) 2) <;> cases S (nb a 2) <;> simp <;> exact fun h => h.symm
end
/-! ### orbits -/
def it (S : Cell → Bool) (e : Side) : Nat → Side
  | 0 => e
  | n + 1 => succ S (it S e n)
section
variable {S : Cell → Bool} {h w : Int}
theorem it_rim {e : Side} (he : Rim S e) : ∀ n, Rim S (it S e n)
  | 0 => he
  | n + 1 => succ_rim (it_rim he n)
theorem it_add (e : Side) (m : Nat) : ∀ n, it S e (m + n) = it S (it S e m) n
  | 0 => rfl
  | n + 1 => congrArg (succ S) (it_add e m n)
theorem it_back {e : Side} (he : Rim S e) : ∀ (i j : Nat), it S e i = it S e (i + j) → e = it S e j
  | 0, j, h => by rw [Nat.zero_add] at h; exact h
  | i + 1, j, h => by
    refine it_back he i j (succ_inj (it_rim he i) (it_rim he (i + j)) ?_)
    rw [show i + 1 + j = i + j + 1 by omega] at h
    exact h
/-- all sides of all cells of the grid -/
def gridSides (h w : Nat) : List Side := ((List.range h).map fun r => (List.range w).map fun c => ((List.range 4).map fun s => ((((r : Nat) : Int), ((c : Nat) : Int)), Fin.ofNat 4 s))).flatten.flatten
theorem mem_gridSides {h w : Nat} {e : Side} (he : inG h w e.1) : e ∈ gridSides h w := by
  obtain ⟨⟨r, c⟩, s⟩ := e
  obtain ⟨⟨h1, h2⟩, h3, h4⟩ := he
  dsimp only at h1 h2 h3 h4
  unfold gridSides
  simp only [List.mem_flatten, List.mem_map, List.mem_range]
  refine ⟨(List.range 4).map fun s => (((r.toNat : Int), (c.toNat : Int)), Fin.ofNat 4 s), ⟨(List.range w).map fun c => ((List.range 4).map fun s => (((r.toNat : Int), ((c : Nat) : Int)), Fin.ofNat 4 s)), ⟨r.toNat, by omega, rfl⟩, ?_⟩, ?_⟩
  · simp only [List.mem_map, List.mem_range]
    exact ⟨c.toNat, by omega, rfl⟩
  · simp only [List.mem_map, List.mem_range]
    refine ⟨s.val, s.isLt, ?_⟩
    have e1 : ((r.toNat : Nat) : Int) = r := by omega
    have e2 : ((c.toNat : Nat) : Int) = c := by omega
    rw [e1, e2]
    congr 1
    exact Fin.ext (Nat.mod_eq_of_lt s.isLt)
theorem period {h w : Nat} (hS : Within h w S) {e : Side} (he : Rim S e) : ∃ n, 0 < n ∧ it S e n = e := by
  refine Classical.byContradiction fun hn => ?_
  have ne : ∀ n, 0 < n → it S e n ≠ e := fun n h1 h2 => hn ⟨n, h1, h2⟩
  have nd : ((List.range ((gridSides h w).length + 1)).map (it S e)).Nodup := by
    unfold List.Nodup
    rw [List.pairwise_map]
    refine List.Pairwise.imp (fun {a b} hab z => ?_) List.pairwise_lt_range
    have hb : b = a + (b - a) := by omega
    rw [hb] at z
    exact ne (b - a) (by omega) (it_back he a (b - a) z).symm
  have := nodup_len (m := gridSides h w) nd fun o ho => by
    obtain ⟨i, _, rfl⟩ := List.mem_map.mp ho
    exact mem_gridSides (hS _ (it_rim he i).1)
  rw [List.length_map, List.length_range] at this
  omega
theorem it_pred {h w : Nat} (hS : Within h w S) {e : Side} (he : Rim S e) {f : Side} (hf : Rim S f) {i : Nat} (hi : succ S f = it S e i) : ∃ j, f = it S e j := by
  cases i with
  | succ i => exact ⟨i, succ_inj hf (it_rim he i) hi⟩
  | zero =>
    obtain ⟨n, n0, hn⟩ := period hS he
    refine ⟨n - 1, succ_inj hf (it_rim he _) ?_⟩
    rw [hi]
    show e = succ S (it S e (n - 1))
    have : it S e (n - 1 + 1) = succ S (it S e (n - 1)) := rfl
    rw [← this, show n - 1 + 1 = n by omega, hn]
def OneOrbit (S : Cell → Bool) : Prop := ∀ e f, Rim S e → Rim S f → ∃ i, f = it S e i
theorem min_orbit {h w : Nat} (hS : Within h w S) (m : Min S) : OneOrbit S := by
  intro e f he hf
  have cl : ∀ g, Rim S g → ((∃ i, g = it S e i) ↔ ∃ i, succ S g = it S e i) := fun g hg => ⟨fun ⟨i, hi⟩ => ⟨i + 1, by rw [hi]; rfl⟩, fun ⟨i, hi⟩ => it_pred hS he hg hi⟩
  refine m (fun g => ∃ i, g = it S e i) (fun g ⟨i, hi⟩ => by rw [hi]; exact it_rim he i) (fun a => ?_) ⟨e, 0, rfl⟩ f hf
  refine even_closed (S := S) (fun g ⟨i, hi⟩ => by rw [hi]; exact it_rim he i) ⟨fun h1 h2 => cb_eq (cl _ ⟨h1, h2⟩), fun h1 h2 => cb_eq (cl _ ⟨h1, h2⟩), fun h1 h2 => cb_eq (cl _ ⟨h1, ?_⟩), fun h1 h2 => cb_eq (cl _ ⟨h1, ?_⟩)⟩
  · show S (nb (nb (nb a 1) 2) 3) = false
    rw [nb_c3]
    exact h2
  · show S (nb (nb a 2) 0) = false
    rw [nb_d0]
    exact h2
/-- a side that begins (ends) at the point below right of a -/
theorem out_of {a : Cell} {e : Side} (ht : tail e = (a.1 + 1, a.2 + 1)) : e = (a, 2) ∨ e = (nb a 1, 3) ∨ e = (nb (nb a 1) 2, 0) ∨ e = (nb a 2, 1) := by
  obtain ⟨⟨r, c⟩, s⟩ := e
  obtain ⟨ar, ac⟩ := a
  revert ht
  revert s
  refine fin4 _ ?_ ?_ ?_ ?_ <;> intro ht <;> simp only [tail, Prod.mk.injEq] at ht
  · refine .inr (.inr (.inl ?_))
    simp only [nb, Prod.mk.injEq, and_true]
    omega
  · refine .inr (.inr (.inr ?_))
    simp only [nb, Prod.mk.injEq, and_true]
    omega
  · refine .inl ?_
    simp only [Prod.mk.injEq, and_true]
    omega
  · refine .inr (.inl ?_)
    simp only [nb, Prod.mk.injEq, and_true]
    omega
theorem in_of {a : Cell} {e : Side} (ht : head e = (a.1 + 1, a.2 + 1)) : e = (a, 1) ∨ e = (nb a 1, 2) ∨ e = (nb (nb a 1) 2, 3) ∨ e = (nb a 2, 0) := by
  obtain ⟨⟨r, c⟩, s⟩ := e
  obtain ⟨ar, ac⟩ := a
  revert ht
  revert s
  refine fin4 _ ?_ ?_ ?_ ?_ <;> intro ht <;> simp only [head, tail, Fin.reduceAdd, Prod.mk.injEq] at ht
  · refine .inr (.inr (.inr ?_))
    simp only [nb, Prod.mk.injEq, and_true]
    omega
  · refine .inl ?_
    simp only [Prod.mk.injEq, and_true]
    omega
  · refine .inr (.inl ?_)
    simp only [nb, Prod.mk.injEq, and_true]
    omega
  · refine .inr (.inr (.inl ?_))
    simp only [nb, Prod.mk.injEq, and_true]
    omega
theorem head_a (a : Cell) : head (a, 1) = (a.1 + 1, a.2 + 1) := by simp only [head, tail, Fin.reduceAdd]
theorem head_b (a : Cell) : head (nb a 1, 2) = (a.1 + 1, a.2 + 1) := by simp only [head, tail, nb, Fin.reduceAdd]
theorem head_c (a : Cell) : head (nb (nb a 1) 2, 3) = (a.1 + 1, a.2 + 1) := by simp only [head, tail, nb, Fin.reduceAdd]
theorem head_d (a : Cell) : head (nb a 2, 0) = (a.1 + 1, a.2 + 1) := by simp only [head, tail, nb, Fin.reduceAdd]
theorem tail_a (a : Cell) : tail (a, 2) = (a.1 + 1, a.2 + 1) := by simp only [tail]
theorem tail_b (a : Cell) : tail (nb a 1, 3) = (a.1 + 1, a.2 + 1) := by simp only [tail, nb]
theorem tail_c (a : Cell) : tail (nb (nb a 1) 2, 0) = (a.1 + 1, a.2 + 1) := by simp only [tail, nb]
theorem tail_d (a : Cell) : tail (nb a 2, 1) = (a.1 + 1, a.2 + 1) := by simp only [tail, nb]
/-- the way from e back to the point where it begins, even but for what is shown there -/
theorem arc_even {h w : Nat} (hS : Within h w S) {e : Side} (he : Rim S e) {a : Cell} (ha : tail e = (a.1 + 1, a.2 + 1)) {k : Nat} (k0 : 0 < k) (hk : tail (it S e k) = tail e) (hm : ∀ m, m < k → ¬ (0 < m ∧ tail (it S e m) = tail e))
    (at_ : EvenAt (fun g => ∃ i, i < k ∧ g = it S e i) a) : Even (fun g => ∃ i, i < k ∧ g = it S e i) := by
  intro a'
  by_cases haa : a' = a
  · rw [haa]; exact at_
  have np : ((a'.1 + 1, a'.2 + 1) : Int × Int) ≠ tail e := fun z => by
    rw [ha] at z
    have z1 := (Prod.mk.inj z).1
    have z2 := (Prod.mk.inj z).2
    exact haa (Prod.ext (by omega) (by omega))
  have cl : ∀ g, Rim S g → head g = (a'.1 + 1, a'.2 + 1) → ((∃ i, i < k ∧ g = it S e i) ↔ ∃ i, i < k ∧ succ S g = it S e i) := fun g hg hh => by
    have ts : tail (succ S g) = (a'.1 + 1, a'.2 + 1) := by rw [tail_succ, hh]
    constructor
    · rintro ⟨i, hi, rfl⟩
      refine ⟨i + 1, ?_, rfl⟩
      rcases Nat.lt_or_ge (i + 1) k with z | z
      · exact z
      · have : i + 1 = k := by omega
        exfalso
        apply np
        rw [← ts, ← hk, ← this]
        rfl
    · rintro ⟨i, hi, z⟩
      cases i with
      | zero =>
        exfalso
        apply np
        rw [← ts, z]
        rfl
      | succ i => exact ⟨i, by omega, succ_inj hg (it_rim he i) z⟩
  refine even_closed (S := S) (fun g ⟨i, _, hi⟩ => by rw [hi]; exact it_rim he i) ⟨fun h1 h2 => cb_eq (cl _ ⟨h1, h2⟩ (head_a a')), fun h1 h2 => cb_eq (cl _ ⟨h1, h2⟩ (head_b a')), fun h1 h2 => cb_eq (cl _ ⟨h1, ?_⟩ (head_c a')), fun h1 h2 => cb_eq (cl _ ⟨h1, ?_⟩ (head_d a'))⟩
  · show S (nb (nb (nb a' 1) 2) 3) = false
    rw [nb_c3]
    exact h2
  · show S (nb (nb a' 2) 0) = false
    rw [nb_d0]
    exact h2
/-- of two ends at the point just one is on the way -/
theorem arc_ends {h w : Nat} {e : Side} (he : Rim S e) {k : Nat} (k0 : 0 < k) (hk : tail (it S e k) = tail e) (hm : ∀ m, m < k → ¬ (0 < m ∧ tail (it S e m) = tail e)) {f g : Side} (hfg : f ≠ g) (hf : head f = tail e) (hg : head g = tail e)
    (one : ∀ z, Rim S z → head z = tail e → z = f ∨ z = g) : (cb (fun g => ∃ i, i < k ∧ g = it S e i) f ^^ cb (fun g => ∃ i, i < k ∧ g = it S e i) g) = true := by
  have last : ∀ i, i < k → head (it S e i) = tail e → i = k - 1 := fun i hi hh => by
    have : tail (it S e (i + 1)) = tail e := by
      show tail (succ S (it S e i)) = tail e
      rw [tail_succ, hh]
    rcases Nat.lt_or_ge (i + 1) k with z | z
    · exact absurd ⟨by omega, this⟩ (hm (i + 1) z)
    · omega
  have hz : head (it S e (k - 1)) = tail e := by
    rw [← tail_succ (S := S)]
    show tail (it S e (k - 1 + 1)) = tail e
    rw [show k - 1 + 1 = k by omega, hk]
  have uniq : ∀ x, head x = tail e → (cb (fun g => ∃ i, i < k ∧ g = it S e i) x = true ↔ x = it S e (k - 1)) := fun x hx => by
    rw [cb_true]
    constructor
    · rintro ⟨i, hi, rfl⟩
      rw [last i hi hx]
    · intro z
      exact ⟨k - 1, by omega, z⟩
  rcases one _ (it_rim he (k - 1)) hz with z | z
  · have c1 := (uniq f hf).mpr z.symm
    have c2 : cb (fun g => ∃ i, i < k ∧ g = it S e i) g = false := by
      cases c : cb (fun g => ∃ i, i < k ∧ g = it S e i) g with
      | false => rfl
      | true => exact absurd ((uniq g hg).mp c) (fun y => hfg (z.symm.trans y.symm))
    rw [c1, c2]
    rfl
  · have c1 := (uniq g hg).mpr z.symm
    have c2 : cb (fun g => ∃ i, i < k ∧ g = it S e i) f = false := by
      cases c : cb (fun g => ∃ i, i < k ∧ g = it S e i) f with
      | false => rfl
      | true => exact absurd ((uniq f hf).mp c) (fun y => hfg (y.trans z))
    rw [c1, c2]
    rfl
theorem back_point {h w : Nat} (hS : Within h w S) {e : Side} (he : Rim S e) : ∃ k, (0 < k ∧ tail (it S e k) = tail e) ∧ ∀ m, m < k → ¬ (0 < m ∧ tail (it S e m) = tail e) := by
  refine least ?_
  obtain ⟨n, n0, hn⟩ := period hS he
  exact ⟨n, n0, by rw [hn]⟩
theorem cell_ne {x y : Cell} {s t : Fin 4} (h : s ≠ t) : ((x, s) : Side) ≠ (y, t) := fun z => h (Prod.mk.inj z).2
theorem min_deg {h w : Nat} (hS : Within h w S) (m : Min S) (a : Cell) : ¬ Deg4 S a := by
  rintro ⟨h1, h2, h3⟩
  cases ha : S a with
  | true =>
    have hb : S (nb a 1) = false := by
      cases e : S (nb a 1) with
      | false => rfl
      | true => rw [ha, e] at h3; exact absurd rfl h3
    have hc : S (nb (nb a 1) 2) = true := by rw [← h1, ha]
    have hd : S (nb a 2) = false := by rw [← h2, hb]
    have re : Rim S (a, 2) := ⟨ha, hd⟩
    obtain ⟨k, ⟨k0, hk⟩, hm⟩ := back_point hS re
    have sub : ∀ e, (∃ i, i < k ∧ e = it S (a, 2) i) → Rim S e := fun e ⟨i, _, hi⟩ => by rw [hi]; exact it_rim re i
    have other : cb (fun g => ∃ i, i < k ∧ g = it S (a, 2) i) (nb (nb a 1) 2, 0) = false := by
      cases c : cb (fun g => ∃ i, i < k ∧ g = it S (a, 2) i) (nb (nb a 1) 2, 0) with
      | false => rfl
      | true =>
        obtain ⟨i, hi, z⟩ := cb_true.mp c
        cases i with
        | zero => exact absurd z (cell_ne (by decide))
        | succ i =>
          refine absurd ⟨Nat.succ_pos i, ?_⟩ (hm (i + 1) hi)
          rw [← z, tail_c, tail_a]
    have own : cb (fun g => ∃ i, i < k ∧ g = it S (a, 2) i) (a, 2) = true := cb_true.mpr ⟨0, k0, rfl⟩
    have ends := arc_ends (h := h) (w := w) (f := (a, 1)) (g := (nb (nb a 1) 2, 3)) re k0 hk hm (cell_ne (by decide)) (by rw [head_a, tail_a]) (by rw [head_c, tail_a]) fun z hz hh => by
      rcases in_of (a := a) (by rw [hh, tail_a]) with y | y | y | y
      · exact .inl y
      · rw [y] at hz; exact absurd hz.1 (by show ¬ S (nb a 1) = true; rw [hb]; decide)
      · exact .inr y
      · rw [y] at hz; exact absurd hz.1 (by show ¬ S (nb a 2) = true; rw [hd]; decide)
    have ev := arc_even hS re (tail_a a) k0 hk hm (by
      rw [even_eq sub, ha, hb, hc, hd]
      simp only [if_true, if_false, Bool.false_eq_true, reduceIte, own, other]
      revert ends
      cases cb (fun g => ∃ i, i < k ∧ g = it S (a, 2) i) (a, 1) <;> cases cb (fun g => ∃ i, i < k ∧ g = it S (a, 2) i) (nb (nb a 1) 2, 3) <;> simp)
    have all := m _ sub ev ⟨(a, 2), 0, k0, rfl⟩ (nb (nb a 1) 2, 0) ⟨hc, by show S (nb (nb (nb a 1) 2) 0) = false; rw [nb_c0]; exact hb⟩
    rw [cb_true.mpr all] at other
    cases other
  | false =>
    have hb : S (nb a 1) = true := by
      cases e : S (nb a 1) with
      | true => rfl
      | false => rw [ha, e] at h3; exact absurd rfl h3
    have hc : S (nb (nb a 1) 2) = false := by rw [← h1, ha]
    have hd : S (nb a 2) = true := by rw [← h2, hb]
    have re : Rim S (nb a 1, 3) := ⟨hb, by show S (nb (nb a 1) 3) = false; rw [nb_b3]; exact ha⟩
    obtain ⟨k, ⟨k0, hk⟩, hm⟩ := back_point hS re
    have sub : ∀ e, (∃ i, i < k ∧ e = it S (nb a 1, 3) i) → Rim S e := fun e ⟨i, _, hi⟩ => by rw [hi]; exact it_rim re i
    have other : cb (fun g => ∃ i, i < k ∧ g = it S (nb a 1, 3) i) (nb a 2, 1) = false := by
      cases c : cb (fun g => ∃ i, i < k ∧ g = it S (nb a 1, 3) i) (nb a 2, 1) with
      | false => rfl
      | true =>
        obtain ⟨i, hi, z⟩ := cb_true.mp c
        cases i with
        | zero => exact absurd z (cell_ne (by decide))
        | succ i =>
          refine absurd ⟨Nat.succ_pos i, ?_⟩ (hm (i + 1) hi)
          rw [← z, tail_d, tail_b]
    have own : cb (fun g => ∃ i, i < k ∧ g = it S (nb a 1, 3) i) (nb a 1, 3) = true := cb_true.mpr ⟨0, k0, rfl⟩
    have ends := arc_ends (h := h) (w := w) (f := (nb a 1, 2)) (g := (nb a 2, 0)) re k0 hk hm (cell_ne (by decide)) (by rw [head_b, tail_b]) (by rw [head_d, tail_b]) fun z hz hh => by
      rcases in_of (a := a) (by rw [hh, tail_b]) with y | y | y | y
      · rw [y] at hz; exact absurd hz.1 (by show ¬ S a = true; rw [ha]; decide)
      · exact .inl y
      · rw [y] at hz; exact absurd hz.1 (by show ¬ S (nb (nb a 1) 2) = true; rw [hc]; decide)
      · exact .inr y
    have ev := arc_even hS re (tail_b a) k0 hk hm (by
      rw [even_eq sub, ha, hb, hc, hd]
      simp only [if_true, if_false, Bool.false_eq_true, reduceIte, own, other]
      revert ends
      cases cb (fun g => ∃ i, i < k ∧ g = it S (nb a 1, 3) i) (nb a 1, 2) <;> cases cb (fun g => ∃ i, i < k ∧ g = it S (nb a 1, 3) i) (nb a 2, 0) <;> simp)
    have all := m _ sub ev ⟨(nb a 1, 3), 0, k0, rfl⟩ (nb a 2, 1) ⟨hd, by show S (nb (nb a 2) 1) = false; rw [nb_d1]; exact hc⟩
    rw [cb_true.mpr all] at other
    cases other
/-- the corner at which a side ends -/
def cor (e : Side) : Cell := ((head e).1 - 1, (head e).2 - 1)
theorem cor_head (e : Side) : head e = ((cor e).1 + 1, (cor e).2 + 1) := by
  unfold cor
  refine Prod.ext ?_ ?_ <;> dsimp only <;> omega
theorem orbit_min {h w : Nat} (hS : Within h w S) (nd : ∀ a, ¬ Deg4 S a) (one : OneOrbit S) : Min S := by
  intro C hC hE ⟨e0, h0⟩ e he
  have step : ∀ g, C g → C (succ S g) := fun g hg => by
    have rg := hC g hg
    have hin := closed_even hC (nd (cor g)) (hE (cor g))
    obtain ⟨h1, h2, h3, h4⟩ := hin
    have key : cb C g = cb C (succ S g) := by
      rcases in_of (cor_head g) with z | z | z | z
      · have r := rg
        rw [z] at r
        rw [z]
        exact h1 r.1 r.2
      · have r := rg
        rw [z] at r
        rw [z]
        exact h2 r.1 r.2
      · have r := rg
        rw [z] at r
        have r2 := r.2
        dsimp only at r2
        rw [nb_c3] at r2
        rw [z]
        exact h3 r.1 r2
      · have r := rg
        rw [z] at r
        have r2 := r.2
        dsimp only at r2
        rw [nb_d0] at r2
        rw [z]
        exact h4 r.1 r2
    exact cb_true.mp (by rw [← key]; exact cb_true.mpr hg)
  have all : ∀ i, C (it S e0 i) := fun i => by
    induction i with
    | zero => exact h0
    | succ i ih => exact step _ ih
  obtain ⟨i, rfl⟩ := one e0 e (hC e0 h0) he
  exact all i
/-- the theorem: hanging together with none shut in, just if no point is met twice and one way goes round all sides -/
theorem ring_iff {h w : Nat} (hS : Within h w S) : Good h w S ↔ (∀ a, ¬ Deg4 S a) ∧ OneOrbit S := by
  constructor
  · intro g
    have m := good_min hS g
    exact ⟨min_deg hS m, min_orbit hS m⟩
  · rintro ⟨nd, one⟩
    exact min_good hS (orbit_min hS nd one)
/-- where no point is met twice a side is told by where it begins -/
theorem tail_inj (nd : ∀ a, ¬ Deg4 S a) {e f : Side} (he : Rim S e) (hf : Rim S f) (h : tail e = tail f) : e = f := by
  have hp : ∃ a : Cell, tail e = (a.1 + 1, a.2 + 1) := ⟨((tail e).1 - 1, (tail e).2 - 1), by refine Prod.ext ?_ ?_ <;> dsimp only <;> omega⟩
  obtain ⟨a, ha⟩ := hp
  have n := nd a
  unfold Deg4 at n
  have hb : tail f = (a.1 + 1, a.2 + 1) := by rw [← h, ha]
  rcases out_of ha with x | x | x | x <;> rcases out_of hb with y | y | y | y <;> subst x <;> subst y <;> first | rfl | skip
  all_goals exfalso
  all_goals obtain ⟨a1, a2⟩ := he
  all_goals obtain ⟨b1, b2⟩ := hf
  all_goals dsimp only at a1 a2 b1 b2
  all_goals simp only [nb_b3, nb_c0, nb_d1] at a1 a2 b1 b2
  all_goals simp_all
theorem head_inj (nd : ∀ a, ¬ Deg4 S a) {e f : Side} (he : Rim S e) (hf : Rim S f) (h : head e = head f) : e = f :=
  succ_inj he hf (tail_inj nd (succ_rim he) (succ_rim hf) (by rw [tail_succ, tail_succ, h]))
end
end Sd.J

/-! The ring theorem, third part: the program's own words (spread, is_inner, is_ring) are those of the theorem. -/
namespace Sd
open Sd.J
/-- the cells as a set of the plane -/
def Sc (h w : Nat) (cs : List Int) : Cell → Bool := fun x => inCell h w cs x.1 x.2
def cellOf (w : Nat) (x : Int) : Cell := (x / (w : Int), x % (w : Int))
def idx (w : Nat) (x : Cell) : Int := x.1 * (w : Int) + x.2
theorem sc_within (h w : Nat) (cs : List Int) : Within h w (Sc h w cs) := fun x hx => by
  unfold Sc inCell at hx
  simp only [Bool.and_eq_true, decide_eq_true_eq] at hx
  exact ⟨hx.1, hx.2.1⟩
theorem sc_iff {h w : Nat} {cs : List Int} {x : Cell} : Sc h w cs x = true ↔ inG h w x ∧ idx w x ∈ cs := by
  unfold Sc inCell inG idx
  simp only [Bool.and_eq_true, decide_eq_true_eq]
  exact ⟨fun h => ⟨⟨h.1, h.2.1⟩, h.2.2⟩, fun h => ⟨h.1.1, h.1.2, h.2⟩⟩
section
variable {h w : Nat} (gk : GOk h w)
include gk
theorem w_cases : w = 1 ∨ w = 2 ∨ w = 3 ∨ w = 4 ∨ w = 5 ∨ w = 6 := by obtain ⟨_, _, _, _⟩ := gk; omega
theorem cell_inG {x : Int} (h0 : 0 ≤ x) (h1 : x < (h : Int) * w) : inG h w (cellOf w x) := by
  unfold inG cellOf
  dsimp only
  have := w_cases gk
  rcases this with rfl | rfl | rfl | rfl | rfl | rfl <;> omega
theorem idx_cell (x : Int) : idx w (cellOf w x) = x := by
  unfold idx cellOf
  dsimp only
  have := w_cases gk
  rcases this with rfl | rfl | rfl | rfl | rfl | rfl <;> omega
theorem cell_idx {x : Cell} (hx : inG h w x) : cellOf w (idx w x) = x := by
  obtain ⟨r, c⟩ := x
  unfold inG at hx
  unfold idx cellOf
  dsimp only at hx ⊢
  have := w_cases gk
  refine Prod.ext ?_ ?_ <;> dsimp only <;> rcases this with rfl | rfl | rfl | rfl | rfl | rfl <;> omega
theorem idx_range {x : Cell} (hx : inG h w x) : 0 ≤ idx w x ∧ idx w x < (h : Int) * w := by
  obtain ⟨r, c⟩ := x
  unfold inG at hx
  unfold idx
  dsimp only at hx ⊢
  have := w_cases gk
  rcases this with rfl | rfl | rfl | rfl | rfl | rfl <;> omega
/-- beside: across a side, within the grid -/
theorem mem_beside {x o : Int} (h0 : 0 ≤ x) (h1 : x < (h : Int) * w) : o ∈ beside h w x ↔ ∃ s, inG h w (nb (cellOf w x) s) ∧ o = idx w (nb (cellOf w x) s) := by
  unfold beside besideA besideB besideC besideD
  simp only [List.mem_append]
  constructor
  · rintro (((ha | ha) | ha) | ha)
    · split at ha
      · refine ⟨0, ?_⟩
        have : o = x - w := by simpa using ha
        unfold nb inG idx cellOf
        dsimp only
        rcases w_cases gk with rfl | rfl | rfl | rfl | rfl | rfl <;> omega
      · cases ha
    · split at ha
      · refine ⟨3, ?_⟩
        have : o = x - 1 := by simpa using ha
        unfold nb inG idx cellOf
        dsimp only
        rcases w_cases gk with rfl | rfl | rfl | rfl | rfl | rfl <;> omega
      · cases ha
    · split at ha
      · refine ⟨1, ?_⟩
        have : o = x + 1 := by simpa using ha
        unfold nb inG idx cellOf
        dsimp only
        rcases w_cases gk with rfl | rfl | rfl | rfl | rfl | rfl <;> omega
      · cases ha
    · split at ha
      · refine ⟨2, ?_⟩
        have : o = x + w := by simpa using ha
        unfold nb inG idx cellOf
        dsimp only
        rcases w_cases gk with rfl | rfl | rfl | rfl | rfl | rfl <;> omega
      · cases ha
  · rintro ⟨s, hs, ho⟩
    revert s
    refine fin4 _ ?_ ?_ ?_ ?_ <;> intro hs ho <;> unfold nb inG cellOf at hs <;> unfold nb idx cellOf at ho <;> dsimp only at hs ho
    · refine .inl (.inl (.inl ?_))
      rw [if_pos (by rcases w_cases gk with rfl | rfl | rfl | rfl | rfl | rfl <;> omega)]
      have : o = x - w := by rcases w_cases gk with rfl | rfl | rfl | rfl | rfl | rfl <;> omega
      simp [this]
    · refine .inl (.inr ?_)
      rw [if_pos (by rcases w_cases gk with rfl | rfl | rfl | rfl | rfl | rfl <;> omega)]
      have : o = x + 1 := by rcases w_cases gk with rfl | rfl | rfl | rfl | rfl | rfl <;> omega
      simp [this]
    · refine .inr ?_
      rw [if_pos (by rcases w_cases gk with rfl | rfl | rfl | rfl | rfl | rfl <;> omega)]
      have : o = x + w := by rcases w_cases gk with rfl | rfl | rfl | rfl | rfl | rfl <;> omega
      simp [this]
    · refine .inl (.inl (.inr ?_))
      rw [if_pos (by rcases w_cases gk with rfl | rfl | rfl | rfl | rfl | rfl <;> omega)]
      have : o = x - 1 := by rcases w_cases gk with rfl | rfl | rfl | rfl | rfl | rfl <;> omega
      simp [this]
theorem edge_iff {x : Int} (h0 : 0 ≤ x) (h1 : x < (h : Int) * w) : onEdge h w x = true ↔ Edge h w (cellOf w x) := by
  unfold onEdge Edge
  simp only [Bool.or_eq_true, decide_eq_true_eq]
  constructor
  · rintro (ha | ha | ha | ha)
    · exact ⟨0, by unfold nb inG cellOf; dsimp only; rcases w_cases gk with rfl | rfl | rfl | rfl | rfl | rfl <;> omega⟩
    · exact ⟨2, by unfold nb inG cellOf; dsimp only; rcases w_cases gk with rfl | rfl | rfl | rfl | rfl | rfl <;> omega⟩
    · exact ⟨3, by unfold nb inG cellOf; dsimp only; rcases w_cases gk with rfl | rfl | rfl | rfl | rfl | rfl <;> omega⟩
    · exact ⟨1, by unfold nb inG cellOf; dsimp only; rcases w_cases gk with rfl | rfl | rfl | rfl | rfl | rfl <;> omega⟩
  · rintro ⟨s, hs⟩
    revert s
    refine fin4 _ ?_ ?_ ?_ ?_ <;> intro hs <;> unfold nb inG cellOf at hs <;> dsimp only at hs <;> rcases w_cases gk with rfl | rfl | rfl | rfl | rfl | rfl <;> omega
end
/-! ### spread is what is come by -/
inductive Conn (h w : Nat) (cs : List Int) : Int → Int → Prop
  | refl (x : Int) : Conn h w cs x x
  | step {x y o : Int} (hy : Conn h w cs x y) (hb : o ∈ beside h w y) (ho : o ∈ cs) : Conn h w cs x o
theorem spreadGo_sound {h w : Nat} {cs : List Int} {x : Int} : ∀ (k : Nat) (f : List Int) (a : Nat), (∀ o ∈ f, Conn h w cs x o) → ∀ o ∈ spreadGo h w cs k f a, Conn h w cs x o
  | 0, f, a, hf => hf
  | k + 1, f, a, hf => by
    unfold spreadGo
    cases hfa : f[a]? with
    | none => exact hf
    | some y =>
      refine spreadGo_sound k _ _ fun o ho => ?_
      rcases List.mem_append.mp ho with ho | ho
      · exact hf o ho
      · obtain ⟨h1, h2⟩ := List.mem_filter.mp ho
        simp only [Bool.and_eq_true, decide_eq_true_eq] at h2
        exact .step (hf y (List.mem_of_getElem? hfa)) h1 h2.1
theorem spreadGo_closed {h w : Nat} (hw : 0 < w) {cs : List Int} {x : Int} : ∀ (k : Nat) (f : List Int) (a : Nat), f.Nodup → (∀ o ∈ f, o ∈ x :: cs) → cs.length + 2 ≤ k + a → (∀ (i : Nat) (y : Int), i < a → f[i]? = some y → ∀ o ∈ beside h w y, o ∈ cs → o ∈ f) →
    (∀ o ∈ f, o ∈ spreadGo h w cs k f a) ∧ ∀ y ∈ spreadGo h w cs k f a, ∀ o ∈ beside h w y, o ∈ cs → o ∈ spreadGo h w cs k f a
  | 0, f, a, fn, fs, hk, hc => by
    have fl : f.length ≤ cs.length + 1 := nodup_sub (m := x :: cs) fn fs
    refine ⟨fun o ho => ho, fun y hy o ho hm => ?_⟩
    have hy' : y ∈ f := hy
    obtain ⟨i, hi⟩ := List.mem_iff_getElem?.mp hy'
    have := (List.getElem?_eq_some_iff.mp hi).1
    exact hc i y (by omega) hi o ho hm
  | k + 1, f, a, fn, fs, hk, hc => by
    unfold spreadGo
    cases hfa : f[a]? with
    | none =>
      refine ⟨fun o ho => ho, fun y hy o ho hm => ?_⟩
      have hy' : y ∈ f := hy
      obtain ⟨i, hi⟩ := List.mem_iff_getElem?.mp hy'
      have h1 := (List.getElem?_eq_some_iff.mp hi).1
      have h2 := List.getElem?_eq_none_iff.mp hfa
      exact hc i y (by omega) hi o ho hm
    | some z =>
      have st := spread_step (h := h) hw (x := z) fn fs
      have ih := spreadGo_closed hw k _ (a + 1) st.1 st.2 (by omega) (fun i y hi hy o ho hm => by
        have al := (List.getElem?_eq_some_iff.mp hfa).1
        have hif : f[i]? = some y := by
          rw [List.getElem?_append_left (by omega)] at hy
          exact hy
        by_cases hof : o ∈ f
        · exact List.mem_append_left _ hof
        · by_cases hia : i < a
          · exact List.mem_append_left _ (hc i y hia hif o ho hm)
          · have : i = a := by omega
            subst this
            rw [hfa] at hif
            have e := Option.some.inj hif
            subst e
            refine List.mem_append_right _ (List.mem_filter.mpr ⟨ho, ?_⟩)
            simp [hm, hof])
      exact ⟨fun o ho => ih.1 o (List.mem_append_left _ ho), ih.2⟩
theorem mem_spread {h w : Nat} (hw : 0 < w) {cs : List Int} {x o : Int} : o ∈ spread h w x cs ↔ Conn h w cs x o := by
  constructor
  · exact spreadGo_sound _ _ _ (fun o ho => by have : o = x := by simpa using ho
                                               rw [this]; exact .refl x) o
  · intro hc
    have cl := spreadGo_closed (h := h) hw (cs := cs) (x := x) (cs.length + 2) [x] 0 (by simp) (by simp) (by omega) (fun i y hi => absurd hi (Nat.not_lt_zero i))
    induction hc with
    | refl => exact cl.1 x (by simp)
    | step hy hb ho ih => exact cl.2 _ (ih) _ hb ho
/-! ### reaching -/
theorem Reach.trans {A : Cell → Prop} {x y z : Cell} (h1 : Reach A x y) (h2 : Reach A y z) : Reach A x z := by
  induction h2 with
  | refl h => exact h1
  | step s h hy ih => exact .step s ih hy
theorem Reach.symm {A : Cell → Prop} {x y : Cell} (h : Reach A x y) : Reach A y x := by
  induction h with
  | refl h => exact .refl h
  | @step y s h hy ih =>
    have : Reach A (nb y s) y := by
      have r := Reach.step (s + 2) (.refl hy) (by rw [nb_back]; exact h.stop)
      rw [nb_back] at r
      exact r
    exact Reach.trans this ih
section
variable {h w : Nat} (gk : GOk h w) {cs : List Int} (A : Cell → Prop) (hA : ∀ x, A x ↔ inG h w x ∧ idx w x ∈ cs) (hc : ∀ x ∈ cs, 0 ≤ x ∧ x < (h : Int) * w)
include gk hA hc
theorem conn_reach {x o : Int} (hx : x ∈ cs) (h1 : Conn h w cs x o) : o ∈ cs ∧ Reach A (cellOf w x) (cellOf w o) := by
  have inA : ∀ y ∈ cs, A (cellOf w y) := fun y hy => (hA _).mpr ⟨cell_inG gk (hc y hy).1 (hc y hy).2, by rw [idx_cell gk]; exact hy⟩
  induction h1 with
  | refl => exact ⟨hx, .refl (inA x hx)⟩
  | @step y o hy hb ho ih =>
    refine ⟨ho, ?_⟩
    obtain ⟨s, hs, rfl⟩ := (mem_beside gk (hc y ih.1).1 (hc y ih.1).2).mp hb
    rw [cell_idx gk hs]
    exact .step s ih.2 ((hA _).mpr ⟨hs, ho⟩)
theorem reach_conn {x : Int} (hx : x ∈ cs) {y : Cell} (h1 : Reach A (cellOf w x) y) : Conn h w cs x (idx w y) := by
  have key : ∀ {z : Cell}, Reach A z y → z = cellOf w x → Conn h w cs x (idx w y) := by
    intro z hr
    induction hr with
    | refl ha =>
      intro e
      rw [e, idx_cell gk]
      exact .refl x
    | @step y s hr hy ih =>
      intro e
      have hg := (hA _).mp hr.stop
      have hg2 := (hA _).mp hy
      refine .step (ih (e ▸ hr) e) ?_ hg2.2
      refine (mem_beside gk (idx_range gk hg.1).1 (idx_range gk hg.1).2).mpr ⟨s, ?_, ?_⟩
      · rw [cell_idx gk hg.1]; exact hg2.1
      · rw [cell_idx gk hg.1]
  exact key h1 rfl
end
/-! ### the program's word -/
section
variable {h w : Nat} (gk : GOk h w)
include gk
theorem mem_rest {cs : List Int} {x : Int} : x ∈ restOf h w cs ↔ (0 ≤ x ∧ x < (h : Int) * w) ∧ x ∉ cs := by
  unfold restOf
  simp only [List.mem_map, List.mem_filter, List.mem_range, Bool.not_eq_true', decide_eq_false_iff_not]
  have cast : ((h * w : Nat) : Int) = (h : Int) * w := Int.natCast_mul h w
  constructor
  · rintro ⟨i, ⟨h1, h2⟩, rfl⟩
    exact ⟨⟨by omega, by omega⟩, h2⟩
  · rintro ⟨⟨h1, h2⟩, h3⟩
    have e : ((x.toNat : Nat) : Int) = x := by omega
    exact ⟨x.toNat, ⟨by omega, by rw [e]; exact h3⟩, e⟩
theorem rest_iff {cs : List Int} {x : Cell} : Rest h w (Sc h w cs) x ↔ inG h w x ∧ idx w x ∈ restOf h w cs := by
  unfold Rest
  constructor
  · rintro ⟨h1, h2⟩
    refine ⟨h1, (mem_rest gk).mpr ⟨idx_range gk h1, fun z => ?_⟩⟩
    rw [sc_iff.mpr ⟨h1, z⟩] at h2
    cases h2
  · rintro ⟨h1, h2⟩
    refine ⟨h1, ?_⟩
    cases e : Sc h w cs x with
    | false => rfl
    | true => exact absurd (sc_iff.mp e).2 ((mem_rest gk).mp h2).2
theorem inner_iff {cs : List Int} {x : Int} (hx : x ∈ restOf h w cs) : isInner h w cs x = false ↔ ∃ y, Reach (Rest h w (Sc h w cs)) (cellOf w x) y ∧ Edge h w y := by
  have hr : ∀ z ∈ restOf h w cs, 0 ≤ z ∧ z < (h : Int) * w := fun z hz => ((mem_rest gk).mp hz).1
  have hA : ∀ z, Rest h w (Sc h w cs) z ↔ inG h w z ∧ idx w z ∈ restOf h w cs := fun z => rest_iff gk
  unfold isInner
  rw [List.all_eq_false]
  constructor
  · rintro ⟨o, ho, he⟩
    have c := (mem_spread gk.2.2.1).mp ho
    obtain ⟨om, r⟩ := conn_reach gk _ hA hr hx c
    refine ⟨cellOf w o, r, (edge_iff gk (hr o om).1 (hr o om).2).mp ?_⟩
    simpa using he
  · rintro ⟨y, hy, he⟩
    have c := reach_conn gk _ hA hr hx hy
    have yg := (hA _).mp hy.stop
    refine ⟨idx w y, (mem_spread gk.2.2.1).mpr c, ?_⟩
    have := (edge_iff gk (idx_range gk yg.1).1 (idx_range gk yg.1).2).mpr (by rw [cell_idx gk yg.1]; exact he)
    simp [this]
theorem firstInner_none {cs : List Int} : firstInner h w cs = none ↔ ∀ x ∈ restOf h w cs, isInner h w cs x = false := by
  unfold firstInner
  rw [List.find?_eq_none]
  constructor
  · intro hf x hx
    obtain ⟨⟨h0, h1⟩, h2⟩ := (mem_rest gk).mp hx
    have e : ((x.toNat : Nat) : Int) = x := by omega
    have cast : ((h * w : Nat) : Int) = (h : Int) * w := Int.natCast_mul h w
    have := hf x.toNat (List.mem_range.mpr (by omega))
    rw [e] at this
    simpa [h2] using this
  · intro ha i hi hf
    have hi := List.mem_range.mp hi
    simp only [Bool.and_eq_true, Bool.not_eq_true', decide_eq_false_iff_not] at hf
    have cast : ((h * w : Nat) : Int) = (h : Int) * w := Int.natCast_mul h w
    have := ha (i : Int) ((mem_rest gk).mpr ⟨⟨by omega, by omega⟩, hf.1⟩)
    rw [this] at hf
    exact absurd hf.2 (by decide)
theorem spread_all {cs : List Int} (ck : COk h w cs) : ¬ (spread h w (cs.headD 0) cs).length < cs.length ↔ ∀ o ∈ cs, Conn h w cs (cs.headD 0) o := by
  have hh : cs.headD 0 ∈ cs := by
    cases cs with
    | nil => exact absurd rfl ck.1
    | cons a r => exact List.mem_cons_self
  have so := spread_ok h (w := w) gk.2.2.1 (cs.headD 0) cs
  have sub : ∀ o ∈ spread h w (cs.headD 0) cs, o ∈ cs := fun o ho => by
    rcases List.mem_cons.mp (so.2 o ho) with e | e
    · rw [e]; exact hh
    · exact e
  have nd : cs.Nodup := List.Pairwise.imp (fun a => by omega) ck.2.2
  constructor
  · intro hl o ho
    refine (mem_spread gk.2.2.1).mp (Classical.byContradiction fun hn => ?_)
    have : ((spread h w (cs.headD 0) cs) ++ [o]).length ≤ cs.length := nodup_sub (List.nodup_append.mpr ⟨so.1, by simp, fun a ha b hb e => by
      have : b = o := by simpa using hb
      exact hn (by rw [← this, ← e]; exact ha)⟩) fun z hz => by
        rcases List.mem_append.mp hz with hz | hz
        · exact sub z hz
        · have : z = o := by simpa using hz
          rw [this]; exact ho
    rw [List.length_append, List.length_singleton] at this
    omega
  · intro ha hl
    have := nodup_sub nd fun o ho => (mem_spread gk.2.2.1).mpr (ha o ho)
    omega
theorem isRing_good {cs : List Int} (ck : COk h w cs) : isRing h w cs = true ↔ Good h w (Sc h w cs) := by
  have hc := ck.2.1
  have hA : ∀ z, Sc h w cs z = true ↔ inG h w z ∧ idx w z ∈ cs := fun z => sc_iff
  have hh : cs.headD 0 ∈ cs := by
    have := ck.1
    cases cs with
    | nil => exact absurd rfl this
    | cons a r => exact List.mem_cons_self
  have e : isRing h w cs = true ↔ (¬ (spread h w (cs.headD 0) cs).length < cs.length ∧ firstInner h w cs = none) := by
    unfold isRing
    split
    · rename_i hl
      exact ⟨fun z => (nomatch z), fun z => absurd hl z.1⟩
    · rename_i hl
      rw [Option.isNone_iff_eq_none]
      exact ⟨fun z => ⟨hl, z⟩, fun z => z.2⟩
  rw [e, spread_all gk ck, firstInner_none gk]
  constructor
  · rintro ⟨h1, h2⟩
    have from0 : ∀ y, Sc h w cs y = true → Reach (fun z => Sc h w cs z = true) (cellOf w (cs.headD 0)) y := fun y hy => by
      have hg := (hA y).mp hy
      have := (conn_reach gk _ hA hc hh (h1 _ hg.2)).2
      rw [cell_idx gk hg.1] at this
      exact this
    refine ⟨fun x y hx hy => Reach.trans (Reach.symm (from0 x hx)) (from0 y hy), fun x hx => ?_⟩
    have hr := (rest_iff gk).mp hx
    have := (inner_iff gk hr.2).mp (h2 _ hr.2)
    rw [cell_idx gk hr.1] at this
    exact this
  · rintro ⟨one, out⟩
    refine ⟨fun o ho => ?_, fun x hx => ?_⟩
    · have inS : ∀ z ∈ cs, Sc h w cs (cellOf w z) = true := fun z hz => (hA _).mpr ⟨cell_inG gk (hc z hz).1 (hc z hz).2, by rw [idx_cell gk]; exact hz⟩
      have := reach_conn gk _ hA hc hh (one _ _ (inS _ hh) (inS o ho))
      rw [idx_cell gk] at this
      exact this
    · have hg := (mem_rest gk).mp hx
      refine (inner_iff gk hx).mpr (out _ ((rest_iff gk).mpr ⟨cell_inG gk hg.1.1 hg.1.2, by rw [idx_cell gk]; exact hx⟩))
/-- is_ring, just if no point is met twice and one way goes round all sides -/
theorem isRing_iff {cs : List Int} (ck : COk h w cs) : isRing h w cs = true ↔ (∀ a, ¬ Deg4 (Sc h w cs) a) ∧ OneOrbit (Sc h w cs) := (isRing_good gk ck).trans (ring_iff (sc_within h w cs))
end
end Sd

/-! The ring theorem, fourth part: the law's own way round: sides counted, points' neighbours, steps. -/
namespace Sd
open Sd.J
abbrev Pt := Int × Int
abbrev Sd2 := Pt × Pt
/-- a side without its direction: its two points in order -/
def und (e : Side) : Sd2 :=
  match e.2 with
  | 0 => ((e.1.1, e.1.2), (e.1.1, e.1.2 + 1))
  | 1 => ((e.1.1, e.1.2 + 1), (e.1.1 + 1, e.1.2 + 1))
  | 2 => ((e.1.1 + 1, e.1.2), (e.1.1 + 1, e.1.2 + 1))
  | 3 => ((e.1.1, e.1.2), (e.1.1 + 1, e.1.2))
theorem und_ends (e : Side) : (und e = (tail e, head e)) ∨ (und e = (head e, tail e)) := by
  obtain ⟨⟨r, c⟩, s⟩ := e
  revert s
  refine fin4 _ ?_ ?_ ?_ ?_
  · exact .inl rfl
  · exact .inl rfl
  · exact .inr rfl
  · exact .inr rfl
theorem und_back (x : Cell) (s : Fin 4) : und (nb x s, s + 2) = und (x, s) := by
  obtain ⟨r, c⟩ := x
  revert s
  refine fin4 _ ?_ ?_ ?_ ?_
  · show (((r - 1 + 1, c), (r - 1 + 1, c + 1)) : Sd2) = ((r, c), (r, c + 1))
    rw [Int.sub_add_cancel]
  · rfl
  · rfl
  · show (((r, c - 1 + 1), (r + 1, c - 1 + 1)) : Sd2) = ((r, c), (r + 1, c))
    rw [Int.sub_add_cancel]
theorem und_eq {x y : Cell} {s t : Fin 4} (h : und (x, s) = und (y, t)) : (y, t) = (x, s) ∨ (y, t) = (nb x s, s + 2) := by
  obtain ⟨r, c⟩ := x
  obtain ⟨r', c'⟩ := y
  revert h
  suffices key : ∀ s t : Fin 4, und ((r, c), s) = und ((r', c'), t) → ((r', c'), t) = ((r, c), s) ∨ ((r', c'), t) = (nb (r, c) s, s + 2) from key s t
  refine fin4 _ ?_ ?_ ?_ ?_ <;> refine fin4 _ ?_ ?_ ?_ ?_ <;> intro h <;> simp only [und, Prod.mk.injEq] at h
  all_goals first
    | (exfalso; omega)
    | (left; refine Prod.ext (Prod.ext ?_ ?_) ?_ <;> first | rfl | (dsimp only; omega))
    | (right; refine Prod.ext (Prod.ext ?_ ?_) ?_ <;> first | rfl | (simp only [nb]; omega))
theorem und_lt (e : Side) : (und e).1.1 < (und e).2.1 ∨ ((und e).1.1 = (und e).2.1 ∧ (und e).1.2 < (und e).2.2) := by
  obtain ⟨⟨r, c⟩, s⟩ := e
  revert s
  refine fin4 _ ?_ ?_ ?_ ?_
  · exact .inr ⟨rfl, (by show c < c + 1; omega)⟩
  · exact .inl (by show r < r + 1; omega)
  · exact .inr ⟨rfl, (by show c < c + 1; omega)⟩
  · exact .inl (by show r < r + 1; omega)
def RimU (S : Cell → Bool) (u : Sd2) : Prop := ∃ e, Rim S e ∧ und e = u
theorem und_rim {S : Cell → Bool} {e f : Side} (he : Rim S e) (hf : Rim S f) (h : und e = und f) : e = f := by
  obtain ⟨x, s⟩ := e
  obtain ⟨y, t⟩ := f
  rcases und_eq h with z | z
  · exact z.symm
  · have h1 := hf.1
    have h2 := he.2
    have : y = nb x s := (Prod.mk.inj z).1
    dsimp only at h1 h2
    rw [this, h2] at h1
    cases h1
/-! ### sides counted -/
def cellSides (x : Cell) : List Sd2 := [und (x, 0), und (x, 2), und (x, 3), und (x, 1)]
theorem mem_cellSides {x : Cell} {u : Sd2} : u ∈ cellSides x ↔ ∃ s, u = und (x, s) := by
  unfold cellSides
  simp only [List.mem_cons, List.not_mem_nil, or_false]
  constructor
  · rintro (z | z | z | z)
    · exact ⟨0, z⟩
    · exact ⟨2, z⟩
    · exact ⟨3, z⟩
    · exact ⟨1, z⟩
  · rintro ⟨s, z⟩
    revert z
    revert s
    refine fin4 _ ?_ ?_ ?_ ?_ <;> intro z
    · exact .inl z
    · exact .inr (.inr (.inr z))
    · exact .inr (.inl z)
    · exact .inr (.inr (.inl z))
theorem nb_ne (x : Cell) (s : Fin 4) : nb x s ≠ x := by
  obtain ⟨r, c⟩ := x
  revert s
  refine fin4 _ ?_ ?_ ?_ ?_ <;> simp only [nb, ne_eq, Prod.mk.injEq] <;> omega
theorem cellSides_nodup (x : Cell) : (cellSides x).Nodup := by
  have ne : ∀ s t : Fin 4, s ≠ t → und (x, s) ≠ und (x, t) := fun s t h z => by
    rcases und_eq z with y | y
    · exact h (Prod.mk.inj y).2.symm
    · exact nb_ne x s (Prod.mk.inj y).1.symm
  unfold cellSides
  simp only [List.nodup_cons, List.mem_cons, List.not_mem_nil, or_false, not_or, not_false_eq_true, List.nodup_nil, and_true]
  exact ⟨⟨ne _ _ (by decide), ne _ _ (by decide), ne _ _ (by decide)⟩, ⟨ne _ _ (by decide), ne _ _ (by decide)⟩, ne _ _ (by decide)⟩
def allSides (xs : List Cell) : List Sd2 := xs.flatMap cellSides
theorem count_all (xs : List Cell) (u : Sd2) : (allSides xs).count u = (xs.filter fun y => decide (u ∈ cellSides y)).length := by
  unfold allSides
  induction xs with
  | nil => rfl
  | cons x r ih =>
    rw [List.flatMap_cons, List.count_append, ih, List.filter_cons]
    by_cases hu : u ∈ cellSides x
    · rw [if_pos (decide_eq_true hu), List.length_cons]
      have : (cellSides x).count u = 1 := by
        have h1 := List.nodup_iff_count.mp (cellSides_nodup x) u
        have h2 := List.count_pos_iff.mpr hu
        omega
      omega
    · rw [if_neg (by simpa using hu), List.count_eq_zero.mpr hu]
      omega
theorem nodup_one {α : Type} [DecidableEq α] {l : List α} {x : α} (hn : l.Nodup) (hx : x ∈ l) (h : ∀ y ∈ l, y = x) : l.length = 1 := by
  have h1 := nodup_len (m := [x]) hn fun o ho => by rw [h o ho]; exact List.mem_cons_self
  have h2 : 0 < l.length := List.length_pos_of_mem hx
  simp at h1
  omega
theorem count_rim {S : Cell → Bool} {xs : List Cell} (hn : xs.Nodup) (hx : ∀ x, x ∈ xs ↔ S x = true) (u : Sd2) : (allSides xs).count u = 1 ↔ RimU S u := by
  rw [count_all]
  have fn : (xs.filter fun y => decide (u ∈ cellSides y)).Nodup := hn.filter _
  constructor
  · intro h1
    have : 0 < (xs.filter fun y => decide (u ∈ cellSides y)).length := by omega
    obtain ⟨x, hxf⟩ := List.exists_mem_of_length_pos this
    obtain ⟨hx1, hx2⟩ := List.mem_filter.mp hxf
    obtain ⟨s, rfl⟩ := mem_cellSides.mp (of_decide_eq_true hx2)
    refine ⟨(x, s), ⟨(hx x).mp hx1, ?_⟩, rfl⟩
    cases e : S (nb x s) with
    | false => rfl
    | true =>
      exfalso
      have m2 : nb x s ∈ xs.filter fun y => decide (und (x, s) ∈ cellSides y) := List.mem_filter.mpr ⟨(hx _).mpr e, decide_eq_true (mem_cellSides.mpr ⟨s + 2, (und_back x s).symm⟩)⟩
      have := nodup_len (l := [x, nb x s]) (m := xs.filter fun y => decide (und (x, s) ∈ cellSides y)) (by simp [(nb_ne x s).symm]) fun o ho => by
        simp only [List.mem_cons, List.not_mem_nil, or_false] at ho
        rcases ho with rfl | rfl
        · exact hxf
        · exact m2
      simp only [List.length_cons, List.length_nil] at this
      omega
  · rintro ⟨⟨x, s⟩, ⟨h1, h2⟩, rfl⟩
    refine nodup_one fn (x := x) (List.mem_filter.mpr ⟨(hx x).mpr h1, decide_eq_true (mem_cellSides.mpr ⟨s, rfl⟩)⟩) fun y hy => ?_
    obtain ⟨hy1, hy2⟩ := List.mem_filter.mp hy
    obtain ⟨t, ht⟩ := mem_cellSides.mp (of_decide_eq_true hy2)
    rcases und_eq ht with z | z
    · exact (Prod.mk.inj z).1
    · exfalso
      have e := (Prod.mk.inj z).1
      have := (hx y).mp hy1
      rw [e] at this
      dsimp only at h2
      rw [h2] at this
      cases this
/-! ### a point's neighbours -/
def nbrs (us : List Sd2) (p : Pt) : List Pt := us.flatMap fun u => (if u.1 = p then [u.2] else []) ++ (if u.2 = p then [u.1] else [])
theorem mem_nbrs {us : List Sd2} {p q : Pt} : q ∈ nbrs us p ↔ (p, q) ∈ us ∨ (q, p) ∈ us := by
  unfold nbrs
  simp only [List.mem_flatMap, List.mem_append]
  constructor
  · rintro ⟨u, hu, h | h⟩
    · split at h
      · rename_i e
        have : q = u.2 := by simpa using h
        left
        rw [this, ← e]
        exact hu
      · cases h
    · split at h
      · rename_i e
        have : q = u.1 := by simpa using h
        right
        rw [this, ← e]
        exact hu
      · cases h
  · rintro (h | h)
    · exact ⟨(p, q), h, .inl (by rw [if_pos rfl]; exact List.mem_cons_self)⟩
    · exact ⟨(q, p), h, .inr (by rw [if_pos rfl]; exact List.mem_cons_self)⟩
theorem nbrs_nodup {us : List Sd2} (hn : us.Nodup) (hl : ∀ u ∈ us, u.1 ≠ u.2) (ha : ∀ p q, (p, q) ∈ us → (q, p) ∉ us) (p : Pt) : (nbrs us p).Nodup := by
  induction us with
  | nil => exact List.Pairwise.nil
  | cons u r ih =>
    obtain ⟨n1, n2⟩ := List.nodup_cons.mp hn
    have ih := ih n2 (fun v hv => hl v (List.mem_cons_of_mem _ hv)) (fun a b h1 h2 => ha a b (List.mem_cons_of_mem _ h1) (List.mem_cons_of_mem _ h2))
    show (((if u.1 = p then [u.2] else []) ++ (if u.2 = p then [u.1] else [])) ++ nbrs r p).Nodup
    obtain ⟨a, b⟩ := u
    have ne := hl (a, b) List.mem_cons_self
    dsimp only at ne ⊢
    by_cases h1 : a = p
    · have h2 : b ≠ p := fun z => ne (h1.trans z.symm)
      rw [if_pos h1, if_neg h2]
      subst h1
      show (b :: nbrs r a).Nodup
      refine List.nodup_cons.mpr ⟨fun z => ?_, ih⟩
      rcases mem_nbrs.mp z with y | y
      · exact n1 y
      · exact ha b a (List.mem_cons_of_mem _ y) List.mem_cons_self
    · rw [if_neg h1]
      by_cases h2 : b = p
      · rw [if_pos h2]
        subst h2
        show (a :: nbrs r b).Nodup
        refine List.nodup_cons.mpr ⟨fun z => ?_, ih⟩
        rcases mem_nbrs.mp z with y | y
        · exact ha b a (List.mem_cons_of_mem _ y) List.mem_cons_self
        · exact n1 y
      · rw [if_neg h2]
        exact ih
/-- a list of just the rim's sides -/
structure IsRim (S : Cell → Bool) (us : List Sd2) : Prop where
  nd : us.Nodup
  mem : ∀ u, u ∈ us ↔ RimU S u
section
variable {S : Cell → Bool} {us : List Sd2} (ir : IsRim S us)
include ir
theorem rim_ne : ∀ u ∈ us, u.1 ≠ u.2 := fun u hu z => by
  obtain ⟨e, _, rfl⟩ := (ir.mem u).mp hu
  have := und_lt e
  rw [z] at this
  omega
theorem rim_as : ∀ p q, (p, q) ∈ us → (q, p) ∉ us := fun p q h1 h2 => by
  obtain ⟨e, _, he⟩ := (ir.mem _).mp h1
  obtain ⟨f, _, hf⟩ := (ir.mem _).mp h2
  have a := und_lt e
  have b := und_lt f
  rw [he] at a
  rw [hf] at b
  dsimp only at a b
  omega
theorem nbrs_nd (p : Pt) : (nbrs us p).Nodup := nbrs_nodup ir.nd (rim_ne ir) (rim_as ir) p
theorem mem_nb {p q : Pt} : q ∈ nbrs us p ↔ ∃ g, Rim S g ∧ ((tail g = p ∧ head g = q) ∨ (head g = p ∧ tail g = q)) := by
  rw [mem_nbrs, ir.mem, ir.mem]
  constructor
  · rintro (⟨e, he, hu⟩ | ⟨e, he, hu⟩)
    · refine ⟨e, he, ?_⟩
      rcases und_ends e with z | z
      · left
        rw [hu] at z
        exact ⟨(Prod.mk.inj z).1.symm, (Prod.mk.inj z).2.symm⟩
      · right
        rw [hu] at z
        exact ⟨(Prod.mk.inj z).1.symm, (Prod.mk.inj z).2.symm⟩
    · refine ⟨e, he, ?_⟩
      rcases und_ends e with z | z
      · right
        rw [hu] at z
        exact ⟨(Prod.mk.inj z).2.symm, (Prod.mk.inj z).1.symm⟩
      · left
        rw [hu] at z
        exact ⟨(Prod.mk.inj z).2.symm, (Prod.mk.inj z).1.symm⟩
  · rintro ⟨g, hg, ⟨rfl, rfl⟩ | ⟨rfl, rfl⟩⟩
    · rcases und_ends g with z | z
      · exact .inl ⟨g, hg, z⟩
      · exact .inr ⟨g, hg, z⟩
    · rcases und_ends g with z | z
      · exact .inr ⟨g, hg, z⟩
      · exact .inl ⟨g, hg, z⟩
/-- a point that is on some side is where a side begins -/
theorem key_tail {p : Pt} (h : nbrs us p ≠ []) : ∃ e, Rim S e ∧ tail e = p := by
  obtain ⟨q, hq⟩ := List.exists_mem_of_ne_nil _ h
  obtain ⟨g, hg, ⟨h1, _⟩ | ⟨h1, _⟩⟩ := (mem_nb ir).mp hq
  · exact ⟨g, hg, h1⟩
  · exact ⟨succ S g, succ_rim hg, by rw [tail_succ]; exact h1⟩
theorem nb_of (nd : ∀ a, ¬ Deg4 S a) {e : Side} (he : Rim S e) {q : Pt} : q ∈ nbrs us (tail e) ↔ q = head e ∨ q = tail (pred S e) := by
  rw [mem_nb ir]
  constructor
  · rintro ⟨g, hg, ⟨h1, h2⟩ | ⟨h1, h2⟩⟩
    · left
      rw [← h2, tail_inj nd hg he h1]
    · right
      have : g = pred S e := by
        refine head_inj nd hg (pred_rim he) ?_
        rw [h1, ← tail_succ (S := S), succ_pred he]
      rw [← h2, this]
  · rintro (rfl | rfl)
    · exact ⟨e, he, .inl ⟨rfl, rfl⟩⟩
    · refine ⟨pred S e, pred_rim he, .inr ⟨?_, rfl⟩⟩
      rw [← tail_succ (S := S), succ_pred he]
theorem head_ne_tail (e : Side) : head e ≠ tail e := by
  obtain ⟨⟨r, c⟩, s⟩ := e
  revert s
  refine fin4 _ ?_ ?_ ?_ ?_ <;> simp only [head, tail, Fin.reduceAdd, ne_eq, Prod.mk.injEq] <;> omega
end
end Sd

/-! The ring theorem, fifth part: the law's steps round. -/
namespace Sd
open Sd.J
/-- the law's steps round: how many until the first point is met again -/
def roundGo (us : List Sd2) (first : Pt) : Nat → Pt → Pt → Nat → Option Nat
  | 0, _, _, _ => none
  | k + 1, ahead, here, n =>
    if here = first then some n
    else match (nbrs us here).filter (fun q => !decide (q = ahead)) with
      | [] => none
      | q :: _ => roundGo us first k here q (n + 1)
theorem two_of {l : List Pt} {a b : Pt} (hn : l.Nodup) (hab : a ≠ b) (hm : ∀ q, q ∈ l ↔ q = a ∨ q = b) : l = [a, b] ∨ l = [b, a] := by
  have ha := (hm a).mpr (.inl rfl)
  have hb := (hm b).mpr (.inr rfl)
  match l, hn, hm, ha, hb with
  | [x], hn, hm, ha, hb =>
    have h1 : a = x := by simpa using ha
    have h2 : b = x := by simpa using hb
    exact absurd (h1.trans h2.symm) hab
  | [x, y], hn, hm, ha, hb =>
    have hxy : x ≠ y := by simpa using hn
    rcases (hm x).mp (by simp) with rfl | rfl
    · rcases (hm y).mp (by simp) with rfl | rfl
      · exact absurd rfl hxy
      · exact .inl rfl
    · rcases (hm y).mp (by simp) with rfl | rfl
      · exact .inr rfl
      · exact absurd rfl hxy
  | x :: y :: z :: r, hn, hm, ha, hb =>
    exfalso
    have := nodup_len (m := [a, b]) hn fun o ho => by
      rcases (hm o).mp ho with rfl | rfl <;> simp
    simp only [List.length_cons, List.length_nil] at this
    omega
theorem filter_two {l : List Pt} {a b : Pt} (hab : a ≠ b) (h : l = [a, b] ∨ l = [b, a]) : l.filter (fun q => !decide (q = a)) = [b] := by
  rcases h with rfl | rfl <;> simp [hab.symm]
theorem round_seq {us : List Sd2} {first : Pt} {p : Nat → Pt} {N : Nat} (pN : p N = first) (pk : ∀ k, 0 < k → k < N → p k ≠ first) (st : ∀ k, k + 1 < N → (nbrs us (p (k + 1))).filter (fun q => !decide (q = p k)) = [p (k + 2)]) : ∀ j k, k + 1 + j = N → ∀ f, j < f → roundGo us first f (p k) (p (k + 1)) (k + 1) = some N
  | 0, k, hk, f, hf => by
    obtain ⟨f, rfl⟩ : ∃ g, f = g + 1 := ⟨f - 1, by omega⟩
    unfold roundGo
    rw [if_pos (by rw [← pN, ← hk]), ← hk]
  | j + 1, k, hk, f, hf => by
    obtain ⟨f, rfl⟩ : ∃ g, f = g + 1 := ⟨f - 1, by omega⟩
    unfold roundGo
    rw [if_neg (pk (k + 1) (by omega) (by omega)), st k (by omega)]
    exact round_seq pN pk st j (k + 1) (by omega) f (by omega)
section
variable {S : Cell → Bool} {us : List Sd2} (ir : IsRim S us)
include ir
theorem head_ne_pred (nd : ∀ a, ¬ Deg4 S a) {e : Side} (he : Rim S e) : head e ≠ tail (pred S e) := fun z => by
  have hp : head (pred S e) = tail e := by rw [← tail_succ (S := S), succ_pred he]
  have : und e = und (pred S e) := by
    have l1 := und_lt e
    have l2 := und_lt (pred S e)
    rcases und_ends e with a | a <;> rcases und_ends (pred S e) with b | b <;> rw [a] at l1 ⊢ <;> rw [b] at l2 ⊢
    · rw [hp, ← z] at l2
      dsimp only at l1 l2
      omega
    · rw [hp, ← z]
    · rw [hp, ← z]
    · rw [hp, ← z] at l2
      dsimp only at l1 l2
      omega
  have e1 := und_rim he (pred_rim he) this
  rw [← e1] at hp
  exact head_ne_tail ir e hp
theorem nb_two (nd : ∀ a, ¬ Deg4 S a) {e : Side} (he : Rim S e) : nbrs us (tail e) = [head e, tail (pred S e)] ∨ nbrs us (tail e) = [tail (pred S e), head e] :=
  two_of (nbrs_nd ir _) (head_ne_pred ir nd he) fun q => nb_of ir nd he
theorem deg_len : (∀ a, ¬ Deg4 S a) ↔ ∀ p, nbrs us p ≠ [] → (nbrs us p).length = 2 := by
  constructor
  · intro nd p hp
    obtain ⟨e, he, rfl⟩ := key_tail ir hp
    rcases nb_two ir nd he with z | z <;> rw [z] <;> rfl
  · intro hl a d
    have three : ∀ {p q1 q2 q3 : Pt}, q1 ∈ nbrs us p → q2 ∈ nbrs us p → q3 ∈ nbrs us p → q1 ≠ q2 → q1 ≠ q3 → q2 ≠ q3 → False := fun {p q1 q2 q3} m1 m2 m3 n1 n2 n3 => by
      have := nodup_len (l := [q1, q2, q3]) (m := nbrs us p) (by simp [n1, n2, n3]) fun o ho => by
        simp only [List.mem_cons, List.not_mem_nil, or_false] at ho
        rcases ho with rfl | rfl | rfl <;> assumption
      rw [hl p (List.ne_nil_of_mem m1)] at this
      simp at this
    obtain ⟨d1, d2, d3⟩ := d
    obtain ⟨r, c⟩ := a
    cases e : S (r, c) with
    | true =>
      have b : S (nb (r, c) 1) = false := by
        cases z : S (nb (r, c) 1) with
        | false => rfl
        | true => exact absurd (e.trans z.symm) d3
      have m1 := (mem_nb ir (p := (r + 1, c + 1)) (q := (r, c + 1))).mpr ⟨((r, c), 1), ⟨e, b⟩, .inr ⟨rfl, rfl⟩⟩
      have m2 := (mem_nb ir (p := (r + 1, c + 1)) (q := (r + 1, c))).mpr ⟨((r, c), 2), ⟨e, d2.symm.trans b⟩, .inl ⟨rfl, rfl⟩⟩
      have m3 := (mem_nb ir (p := (r + 1, c + 1)) (q := (r + 1, c + 1 + 1))).mpr ⟨(nb (nb (r, c) 1) 2, 0), ⟨d1.symm.trans e, (by rw [nb_c0]; exact b)⟩, .inl ⟨rfl, rfl⟩⟩
      exact three m1 m2 m3 (by simp; omega) (by simp; omega) (by simp; omega)
    | false =>
      have b : S (nb (r, c) 1) = true := by
        cases z : S (nb (r, c) 1) with
        | false => exact absurd (e.trans z.symm) d3
        | true => rfl
      have m1 := (mem_nb ir (p := (r + 1, c + 1)) (q := (r + 1, c + 1 + 1))).mpr ⟨(nb (r, c) 1, 2), ⟨b, d1.symm.trans e⟩, .inr ⟨rfl, rfl⟩⟩
      have m2 := (mem_nb ir (p := (r + 1, c + 1)) (q := (r, c + 1))).mpr ⟨(nb (r, c) 1, 3), ⟨b, (by rw [nb_b3]; exact e)⟩, .inl ⟨rfl, rfl⟩⟩
      have m3 := (mem_nb ir (p := (r + 1, c + 1)) (q := (r + 1, c))).mpr ⟨(nb (r, c) 2, 0), ⟨d2.symm.trans b, (by rw [nb_d0]; exact e)⟩, .inr ⟨rfl, rfl⟩⟩
      exact three m1 m2 m3 (by simp; omega) (by simp; omega) (by simp; omega)
end
/-! ### periods -/
section
variable {S : Cell → Bool} {us : List Sd2} {h w : Nat}
/-- a side's least period -/
def Per (S : Cell → Bool) (e : Side) (N : Nat) : Prop := (0 < N ∧ it S e N = e) ∧ ∀ m, m < N → ¬ (0 < m ∧ it S e m = e)
theorem per_ex (hS : Within h w S) {e : Side} (he : Rim S e) : ∃ N, Per S e N := least (period hS he)
theorem per_inj {e : Side} (he : Rim S e) {N : Nat} (p : Per S e N) {i j : Nat} (hi : i < N) (hj : j < N) (h : it S e i = it S e j) : i = j := by
  have key : ∀ {i j : Nat}, i < j → j < N → it S e i ≠ it S e j := fun {i j} hij hj z => by
    have hb : j = i + (j - i) := by omega
    rw [hb] at z
    exact p.2 (j - i) (by omega) ⟨by omega, (it_back he i (j - i) z).symm⟩
  rcases Nat.lt_trichotomy i j with a | a | a
  · exact absurd h (key a hj)
  · exact a
  · exact absurd h.symm (key a hi)
theorem per_mod {e : Side} {N : Nat} (p : Per S e N) (i : Nat) : ∃ k, k < N ∧ it S e i = it S e k := by
  induction i with
  | zero => exact ⟨0, p.1.1, rfl⟩
  | succ i ih =>
    obtain ⟨k, hk, e1⟩ := ih
    by_cases hl : k + 1 < N
    · exact ⟨k + 1, hl, congrArg (succ S) e1⟩
    · refine ⟨0, p.1.1, ?_⟩
      show succ S (it S e i) = e
      rw [e1]
      show it S e (k + 1) = e
      rw [show k + 1 = N by omega]
      exact p.1.2
theorem per_nodup {e : Side} (he : Rim S e) {N : Nat} (p : Per S e N) : ((List.range N).map (it S e)).Nodup := by
  unfold List.Nodup
  rw [List.pairwise_map]
  refine List.pairwise_iff_getElem.mpr fun i j hi hj hij z => ?_
  rw [List.getElem_range, List.getElem_range] at z
  rw [List.length_range] at hi hj
  have := per_inj he p hi hj z
  omega
theorem orbit_from {e : Side} (he : Rim S e) {N : Nat} (p : Per S e N) (all : ∀ f, Rim S f → ∃ i, i < N ∧ f = it S e i) : OneOrbit S := fun a f ha hf => by
  obtain ⟨i, hi, rfl⟩ := all a ha
  obtain ⟨j, hj, rfl⟩ := all f hf
  refine ⟨N - i + j, ?_⟩
  rw [← it_add, show i + (N - i + j) = N + j by omega, it_add, p.1.2]
theorem per_len (ir : IsRim S us) {e : Side} (he : Rim S e) {N : Nat} (p : Per S e N) : N ≤ us.length ∧ (N = us.length ↔ OneOrbit S) := by
  have nd : (((List.range N).map (it S e)).map und).Nodup := by
    have h0 := per_nodup he p
    unfold List.Nodup at h0 ⊢
    rw [List.pairwise_map]
    refine List.Pairwise.imp_of_mem (fun {a b} ha hb n z => ?_) h0
    obtain ⟨i, _, rfl⟩ := List.mem_map.mp ha
    obtain ⟨j, _, rfl⟩ := List.mem_map.mp hb
    exact n (und_rim (it_rim he i) (it_rim he j) z)
  have sub : ∀ o ∈ ((List.range N).map (it S e)).map und, o ∈ us := fun o ho => by
    obtain ⟨f, hf, rfl⟩ := List.mem_map.mp ho
    obtain ⟨i, _, rfl⟩ := List.mem_map.mp hf
    exact (ir.mem _).mpr ⟨_, it_rim he i, rfl⟩
  have le := nodup_len nd sub
  rw [List.length_map, List.length_map, List.length_range] at le
  refine ⟨le, fun hN => ?_, fun one => ?_⟩
  · refine orbit_from he p fun f hf => ?_
    have fu : und f ∈ us := (ir.mem _).mpr ⟨f, hf, rfl⟩
    have fin : und f ∈ ((List.range N).map (it S e)).map und := Classical.byContradiction fun hn => by
      have := nodup_len (l := und f :: ((List.range N).map (it S e)).map und) (m := us) (List.nodup_cons.mpr ⟨hn, nd⟩) fun o ho => by
        rcases List.mem_cons.mp ho with rfl | ho
        · exact fu
        · exact sub o ho
      rw [List.length_cons, List.length_map, List.length_map, List.length_range] at this
      omega
    obtain ⟨g, hg, eg⟩ := List.mem_map.mp fin
    obtain ⟨i, hi, rfl⟩ := List.mem_map.mp hg
    exact ⟨i, List.mem_range.mp hi, (und_rim (it_rim he i) hf eg).symm⟩
  · have := nodup_len (l := us) (m := ((List.range N).map (it S e)).map und) ir.nd fun o ho => by
      obtain ⟨f, hf, rfl⟩ := (ir.mem o).mp ho
      obtain ⟨i, hi⟩ := one e f he hf
      obtain ⟨k, hk, e2⟩ := per_mod p i
      exact List.mem_map.mpr ⟨f, List.mem_map.mpr ⟨k, List.mem_range.mpr hk, by rw [hi, e2]⟩, rfl⟩
    rw [List.length_map, List.length_map, List.length_range] at this
    omega
/-- the law's steps come round -/
theorem round_ok (hS : Within h w S) (ir : IsRim S us) (nd : ∀ a, ¬ Deg4 S a) {first q : Pt} {r : List Pt} (hq : nbrs us first = q :: r) : ∃ N, roundGo us first (us.length + 1) first q 1 = some N ∧ N ≤ us.length ∧ (N = us.length ↔ OneOrbit S) := by
  obtain ⟨e, he, rfl⟩ := key_tail ir (p := first) (by rw [hq]; exact List.cons_ne_nil _ _)
  obtain ⟨N, p⟩ := per_ex hS he
  obtain ⟨le, iff⟩ := per_len ir he p
  have N0 := p.1.1
  refine ⟨N, ?_, le, iff⟩
  have hback : ∀ k, k < N → it S e (N - k) = succ S (it S e (N - k - 1)) := fun k hk => by
    have : N - k = N - k - 1 + 1 := by omega
    rw [show it S e (N - k) = it S e (N - k - 1 + 1) from congrArg _ this]
    rfl
  rcases nb_two ir nd he with z | z
  · have e1 : q = head e := by rw [hq] at z; exact (List.cons.inj z).1
    have := round_seq (us := us) (first := tail e) (p := fun k => tail (it S e k)) (N := N) (by rw [p.1.2]) (fun k k0 kN z => p.2 k kN ⟨k0, tail_inj nd (it_rim he k) he z⟩) (fun k hk => by
      have hr := it_rim he (k + 1)
      have t := nb_two ir nd hr
      have pp : pred S (it S e (k + 1)) = it S e k := pred_succ (it_rim he k)
      have ne := head_ne_pred ir nd hr
      rw [pp] at t ne
      have hh : head (it S e (k + 1)) = tail (it S e (k + 2)) := (tail_succ (S := S) (it S e (k + 1))).symm
      rw [hh] at t ne
      exact filter_two ne.symm t.symm) (N - 1) 0 (by omega) (us.length + 1) (by omega)
    rw [e1, ← tail_succ (S := S)]
    exact this
  · have e1 : q = tail (pred S e) := by rw [hq] at z; exact (List.cons.inj z).1
    have e2 : pred S e = it S e (N - 1) := by
      have := hback 0 N0
      rw [Nat.sub_zero, p.1.2] at this
      have h3 := pred_succ (S := S) (it_rim he (N - 1))
      rw [← this] at h3
      exact h3
    have := round_seq (us := us) (first := tail e) (p := fun k => tail (it S e (N - k))) (N := N) (by rw [Nat.sub_self]; rfl) (fun k k0 kN z => p.2 (N - k) (by omega) ⟨by omega, tail_inj nd (it_rim he _) he z⟩) (fun k hk => by
      have hr := it_rim he (N - (k + 1))
      have t := nb_two ir nd hr
      have ne := head_ne_pred ir nd hr
      have pp : pred S (it S e (N - (k + 1))) = it S e (N - (k + 2)) := by
        rw [hback (k + 1) hk]
        exact pred_succ (it_rim he _)
      have hh : head (it S e (N - (k + 1))) = tail (it S e (N - k)) := by
        rw [hback k (by omega)]
        exact (tail_succ (S := S) _).symm
      rw [pp, hh] at t ne
      exact filter_two ne t) (N - 1) 0 (by omega) (us.length + 1) (by omega)
    rw [Nat.sub_zero, p.1.2, Nat.zero_add, ← e2] at this
    rw [e1]
    exact this
end
/-! ### cells -/
theorem head_mem {cs : List Int} (hc : cs ≠ []) : cs.headD 0 ∈ cs := by
  cases cs with
  | nil => exact absurd rfl hc
  | cons a r => exact List.mem_cons_self
theorem head_least {cs : List Int} (hr : cs.Pairwise (· < ·)) : ∀ o ∈ cs, cs.headD 0 ≤ o := fun o ho => by
  cases cs with
  | nil => cases ho
  | cons a r =>
    show a ≤ o
    rcases List.mem_cons.mp ho with rfl | ho
    · exact Int.le_refl _
    · have := (List.pairwise_cons.mp hr).1 o ho
      omega
/-- the first cell's upper side is on the rim -/
theorem first_rim {h w : Nat} (gk : GOk h w) {cs : List Int} (ck : COk h w cs) : Rim (Sc h w cs) (cellOf w (cs.headD 0), 0) := by
  have hm := head_mem ck.1
  have hb := ck.2.1 _ hm
  refine ⟨sc_iff.mpr ⟨cell_inG gk hb.1 hb.2, (by rw [idx_cell gk]; exact hm)⟩, ?_⟩
  cases e : Sc h w cs (nb (cellOf w (cs.headD 0)) 0) with
  | false => rfl
  | true =>
    exfalso
    have h1 := head_least ck.2.2 _ (sc_iff.mp e).2
    have h2 := idx_cell gk (cs.headD 0)
    unfold idx at h1 h2
    simp only [nb] at h1
    have := gk.2.2.1
    rw [Int.sub_mul] at h1
    omega
end Sd

/-! Rules of our own: dicts whose keys are nested tuples of whole numbers. -/
namespace Sd
open PySem L2 Evl PySem.Spec PyProof.Rows
/-! ### keys as the abstract heap knows them -/
mutual
inductive NK (H : Hp) : NestedKey → V → Prop
  | num (i : Int) : NK H (.num i) (.int i)
  | tup {a : Addr} {vs : List V} {ks : List NestedKey} : H a = some (.tup vs) → NKs H ks vs → NK H (.tup ks) (.ref a)
inductive NKs (H : Hp) : List NestedKey → List V → Prop
  | nil : NKs H [] []
  | cons {k : NestedKey} {v : V} {ks : List NestedKey} {vs : List V} : NK H k v → NKs H ks vs → NKs H (k :: ks) (v :: vs)
end
mutual
theorem NK.mono {H H' : Hp} (e : Ex H H') : ∀ {k : NestedKey} {v : V}, NK H k v → NK H' k v
  | _, _, .num i => .num i
  | _, _, .tup h hs => .tup (e _ _ h) (NKs.mono e hs)
theorem NKs.mono {H H' : Hp} (e : Ex H H') : ∀ {ks : List NestedKey} {vs : List V}, NKs H ks vs → NKs H' ks vs
  | _, _, .nil => .nil
  | _, _, .cons h hs => .cons (NK.mono e h) (NKs.mono e hs)
end
mutual
theorem NK.is {P : Program} {w : World} {H : Hp} {h : Heap} (ok : HOk P w H h) : ∀ {k : NestedKey} {v : V} {u : Value}, NK H k v → RelV v u → NestedIs h k u
  | _, _, u, .num i, r => by
    obtain ⟨t, e⟩ := (show ∃ t, u = Value.int i t from r)
    subst e
    exact .int i t
  | _, _, u, @NK.tup _ a vs ks ha hs, r => by
    cases (show u = Value.ref a from r)
    obtain ⟨_, its, rv, o, h1, h2, n, h3⟩ := (show ObjOk P w H h a (.tup vs) from ok a _ ha)
    exact .tup h1 h2 h3 (NKs.is ok hs rv)
theorem NKs.is {P : Program} {w : World} {H : Hp} {h : Heap} (ok : HOk P w H h) : ∀ {ks : List NestedKey} {vs : List V} {us : List Value}, NKs H ks vs → Vals vs us → NestedAll h ks us
  | _, _, _, .nil, .nil => .nil
  | _, _, _, .cons k ks, .cons r rs => .cons (NK.is ok k r) (NKs.is ok ks rs)
end
/-- an entry: its key, where the key's tuple stands, its value -/
abbrev Ent := NestedKey × Addr × V
def RelE (p : Ent) (q : NestedKey × Addr × Value) : Prop := p.1 = q.1 ∧ p.2.1 = q.2.1 ∧ RelV p.2.2 q.2.2
def entW (w : World) (x : NestedKey × Addr × Value) : DictEntry := ⟨x.1.hash w, .ref x.2.1, x.2.2⟩
def dnP (w : World) (d : Addr) (kas : List Ent) : Heap → Prop := fun h => kas.length ≤ sizeLine ∧ (d == sysModules) = false ∧ ∃ xs, Paired RelE kas xs ∧ ∃ o es ep, h.get? d = some o ∧ o.ExactDict ∧ o.data = .dict es ep ∧ es.toList = xs.map (entW w) ∧ (xs.map (·.1)).Nodup
/-- the dict at d with these entries -/
def DN (w : World) (d : Addr) (kas : List Ent) : HO := .ext (dnP w d kas)
def Keys (H : Hp) (kas : List Ent) : Prop := ∀ e ∈ kas, NK H e.1 (.ref e.2.1) ∧ e.1.depth ≤ 8
theorem Keys.mono {H H' : Hp} {kas : List Ent} (e : Ex H H') (h : Keys H kas) : Keys H' kas := fun x hx => ⟨(h x hx).1.mono e, (h x hx).2⟩
theorem dn_ok {P : Program} {w : World} {H : Hp} {h : Heap} {d : Addr} {kas : List Ent} (p : dnP w d kas h) : ObjOk P w H h d (DN w d kas) := by
  refine ⟨p, ?_, fun h1 h2 q k => ?_⟩
  · obtain ⟨_, _, _, _, o, _, _, e, _⟩ := p
    exact ⟨o, e⟩
  · obtain ⟨a, b, xs, c, o, es, ep, e, r⟩ := q
    exact ⟨a, b, xs, c, o, es, ep, k o e, r⟩
theorem keys_is {P : Program} {w : World} {H : Hp} {h : Heap} (ok : HOk P w H h) : ∀ {kas : List Ent} {xs : List (NestedKey × Addr × Value)}, Paired RelE kas xs → Keys H kas → ∀ x ∈ xs, (nestedKind P w).is h x.1 x.2.1
  | _, _, .nil, _, x, hx => nomatch hx
  | p :: ps, q :: qs, .cons r t, hk, x, hx => by
    rcases List.mem_cons.mp hx with rfl | hx
    · have := hk p List.mem_cons_self
      refine ⟨?_, by rw [← r.1]; exact this.2⟩
      rw [← r.1, ← r.2.1]
      exact this.1.is ok rfl
    · exact keys_is ok t (fun e he => hk e (List.mem_cons_of_mem _ he)) x hx
theorem dn_rd {P : Program} {w : World} {H : Hp} {h : Heap} {d : Addr} {kas : List Ent} (ok : HOk P w H h) (e : Rd H d (DN w d kas)) (hk : Keys H kas) : kas.length ≤ sizeLine ∧ (d == sysModules) = false ∧ ∃ xs, Paired RelE kas xs ∧ h.DictOfH (nestedKind P w) d xs := by
  have x : ObjOk P w H h d (DN w d kas) := by
    rcases e with e | ⟨o, e⟩
    · exact ok d _ e
    · exact (ok d _ e).2
  obtain ⟨⟨a, b, xs, r, o, es, ep, h1, h2, h3, h4, h5⟩, _⟩ := x
  exact ⟨a, b, xs, r, o, es, ep, h1, h2, h3, h4, keys_is ok r hk, h5⟩
def valE (kas : List Ent) (k : NestedKey) : Option V := (kas.find? fun x => decide (x.1 = k)).map (·.2.2)
def putE (kas : List Ent) (k : NestedKey) (a : Addr) (v : V) : List Ent := if (valE kas k).isSome = true then kas.map fun x => if x.1 = k then (x.1, x.2.1, v) else x else kas ++ [(k, a, v)]
theorem rel_val : ∀ {kas : List Ent} {xs : List (NestedKey × Addr × Value)} (k : NestedKey), Paired RelE kas xs → RelO (valE kas k) ((atKey xs k).map (·.2))
  | _, _, _, .nil => True.intro
  | p :: ps, q :: qs, k, .cons r t => by
    unfold valE atKey
    rw [List.find?_cons, List.find?_cons]
    by_cases h : p.1 = k
    · have h' : q.1 = k := by rw [← r.1]; exact h
      simp only [h, h', decide_true]
      exact r.2.2
    · have h' : ¬ q.1 = k := by rw [← r.1]; exact h
      simp only [h, h', decide_false]
      exact rel_val k t
theorem rel_some {kas : List Ent} {xs : List (NestedKey × Addr × Value)} (k : NestedKey) (h : Paired RelE kas xs) : (valE kas k).isSome = (atKey xs k).isSome := by
  have := rel_val k h
  cases h1 : valE kas k <;> cases h2 : atKey xs k
  · rfl
  · rw [h1, h2] at this; exact (show False from this).elim
  · rw [h1, h2] at this; exact (show False from this).elim
  · rfl
theorem rel_map {k : NestedKey} {v : V} {u : Value} (rv : RelV v u) : ∀ {kas : List Ent} {xs : List (NestedKey × Addr × Value)}, Paired RelE kas xs → Paired RelE (kas.map fun x => if x.1 = k then (x.1, x.2.1, v) else x) (xs.map (putAt k u))
  | _, _, .nil => .nil
  | p :: ps, q :: qs, .cons r t => by
    refine .cons ?_ (rel_map rv t)
    unfold putAt
    dsimp only
    by_cases h : p.1 = k
    · have h' : q.1 = k := by rw [← r.1]; exact h
      rw [if_pos h, if_pos h']
      exact ⟨r.1, r.2.1, rv⟩
    · have h' : ¬ q.1 = k := by rw [← r.1]; exact h
      rw [if_neg h, if_neg h']
      exact r
theorem pair_snoc {α β : Type} {F : α → β → Prop} : ∀ {l : List α} {m : List β} {a : α} {b : β}, Paired F l m → F a b → Paired F (l ++ [a]) (m ++ [b])
  | [], [], _, _, .nil, h => .cons h .nil
  | _ :: _, _ :: _, _, _, .cons g gs, h => .cons g (pair_snoc gs h)
theorem rel_put {k : NestedKey} {a : Addr} {v : V} {u : Value} (rv : RelV v u) {kas : List Ent} {xs : List (NestedKey × Addr × Value)} (h : Paired RelE kas xs) : Paired RelE (putE kas k a v) (storedH xs k a u) := by
  unfold putE storedH
  rw [rel_some k h]
  split
  · exact rel_map rv h
  · exact pair_snoc h ⟨rfl, rfl, rv⟩
theorem putE_len (kas : List Ent) (k : NestedKey) (a : Addr) (v : V) : (putE kas k a v).length ≤ kas.length + 1 := by
  unfold putE
  split
  · rw [List.length_map]; omega
  · rw [List.length_append]; simp
theorem putE_keys {H : Hp} {kas : List Ent} {k : NestedKey} {a : Addr} {v : V} (h : Keys H kas) (hk : NK H k (.ref a)) (hd : k.depth ≤ 8) : Keys H (putE kas k a v) := fun e he => by
  unfold putE at he
  split at he
  · obtain ⟨x, hx, rfl⟩ := List.mem_map.mp he
    have := h x hx
    split
    · exact this
    · exact this
  · rcases List.mem_append.mp he with he | he
    · exact h e he
    · have : e = (k, a, v) := by simpa using he
      rw [this]
      exact ⟨hk, hd⟩
section
variable {X : Cx} {pins : List (Addr × Obj)} {σ : L2.St} {H : Hp} {s : Shared} {d a : Addr} {k : NestedKey} {kas : List Ent} {v : V} {r : Value} {A : Around} {E : Value → Shared → Prop}
theorem dn_key (I : Inv X pins σ H s) (hk : NK H k (.ref a)) (hd : k.depth ≤ 8) : (nestedKind X.prog X.w).is s.heap k a := ⟨hk.is I.hok rfl, hd⟩
theorem dn_get {Q : Value → Shared → Prop} (hu : A.units + 60 < cLine) (I : Inv X pins σ H s) (e : Rd H d (DN X.w d kas)) (ks : Keys H kas) (hk : NK H k (.ref a)) (hd : k.depth ≤ 8) (hv : valE kas k = some v) (h : ∀ u s', Inv X pins σ H s' → RelV v u → Q u s') :
    wpAny (model X.prog X.w) A (getItem (.ref d) (.ref a)) Q E s := by
  obtain ⟨z, hs, xs, rel, dd⟩ := dn_rd (P := X.prog) (w := X.w) I.hok e ks
  obtain ⟨u, hw, ru⟩ := RelO.some_of (v := v) (o := (atKey xs k).map (·.2)) (by rw [← hv]; exact rel_val k rel)
  obtain ⟨p, hp, hp2⟩ := Option.map_eq_some_iff.mp hw
  refine wpAny_getItem_heap (show A.units + 1 + 8 < cLine by omega) (dn_key I hk hd) dd hp ?_
  rw [hp2]
  exact h u _ (I.tok _) ru
theorem dn_get2 {x : V} {Q : Value → Shared → Prop} (hu : A.units + 60 < cLine) (I : Inv X pins σ H s) (e : Rd H d (DN X.w d kas)) (ks : Keys H kas) (hk : NK H k (.ref a)) (hd : k.depth ≤ 8) (rx : RelV x r) (h : ∀ u s', Inv X pins σ H s' → RelV ((valE kas k).getD x) u → Q u s') :
    wpAny (model X.prog X.w) A (call (.builtin "dict.get") [.ref d, .ref a, r]) Q E s := by
  obtain ⟨z, hs, xs, rel, dd⟩ := dn_rd (P := X.prog) (w := X.w) I.hok e ks
  refine getOr_keyed (knd := nestedKind X.prog X.w) (kvs := pairsH xs) (k := k) (show A.units + 1 + 8 < cLine by omega) (dn_key I hk hd) hs ⟨xs, dd, rfl⟩ ?_
  rw [valueAt_pairsH]
  refine h _ _ (I.tok _) ?_
  have q := rel_val k rel
  cases h1 : valE kas k <;> cases h2 : atKey xs k
  · exact rx
  · rw [h1, h2] at q; exact (show False from q).elim
  · rw [h1, h2] at q; exact (show False from q).elim
  · rw [h1, h2] at q; exact q
theorem dn_new {h' : Heap} {xs : List (NestedKey × Addr × Value)} {kas' : List Ent} (hl : kas'.length ≤ sizeLine) (hs : (d == sysModules) = false) (rel : Paired RelE kas' xs) (dd : h'.DictOfH (nestedKind X.prog X.w) d xs) : dnP X.w d kas' h' := by
  obtain ⟨o, es, ep, h1, h2, h3, h4, _, h5⟩ := dd
  exact ⟨hl, hs, xs, rel, o, es, ep, h1, h2, h3, h4, h5⟩
theorem dn_set {Q : Unit → Shared → Prop} (hu : A.units + 60 < cLine) (I : Inv X pins σ H s) (e : H d = some (DN X.w d kas)) (ks : Keys H kas) (hk : NK H k (.ref a)) (hd : k.depth ≤ 8) (hl : kas.length < sizeLine) (rv : RelV v r) (h : ∀ s', Inv X pins σ (upd H d (DN X.w d (putE kas k a v))) s' → Q () s') :
    wpAny (model X.prog X.w) A (setItem (.ref d) (.ref a) r) Q E s := by
  obtain ⟨z, hs, xs, rel, dd⟩ := dn_rd (P := X.prog) (w := X.w) I.hok (.inl e) ks
  have hz : xs.length ≤ sizeLine := by rw [← Paired.length rel]; exact z
  refine wpAny_setItem_heap (hsz := hz) (show A.units + 1 + 8 < cLine by omega) (dn_key I hk hd) dd fun h' dd' hs' => h _ ?_
  have he : ∃ q, h'.get? d = some q := let ⟨q, _, _, hq, _⟩ := dd'; ⟨q, hq⟩
  exact I.write (x := d) (e := d) (by rw [e]; exact True.intro) (.inl rfl) (fun b q hb z => (hs'.2 b hb).trans z) he (dn_ok (dn_new (by have := putE_len kas k a v; omega) hs (rel_put rv rel) dd'))
theorem dn_setd {x : V} {Q : Value → Shared → Prop} (hu : A.units + 60 < cLine) (I : Inv X pins σ H s) (e : H d = some (DN X.w d kas)) (ks : Keys H kas) (hk : NK H k (.ref a)) (hd : k.depth ≤ 8) (hl : kas.length < sizeLine) (rx : RelV x r)
    (h1 : ∀ v, valE kas k = some v → ∀ u s', Inv X pins σ H s' → RelV v u → Q u s') (h2 : valE kas k = none → ∀ s', Inv X pins σ (upd H d (DN X.w d (putE kas k a x))) s' → Q r s') :
    wpAny (model X.prog X.w) A (call (.builtin "dict.setdefault") [.ref d, .ref a, r]) Q E s := by
  obtain ⟨z, hs, xs, rel, dd⟩ := dn_rd (P := X.prog) (w := X.w) I.hok (.inl e) ks
  have hz : xs.length ≤ sizeLine := by rw [← Paired.length rel]; exact z
  have q := rel_val k rel
  refine call_setdefault_heap (hsz := hz) (show A.units + 1 + 8 < cLine by omega) (dn_key I hk hd) hs dd (fun p hp => ?_) fun hn h' dd' hs' => ?_
  · rw [hp] at q
    cases hv : valE kas k with
    | none => rw [hv] at q; exact (show False from q).elim
    | some v =>
      rw [hv] at q
      exact h1 v hv _ _ (I.tok _) q
  · rw [hn] at q
    cases hv : valE kas k with
    | some v => rw [hv] at q; exact (show False from q).elim
    | none =>
      have he : ∃ q, h'.get? d = some q := let ⟨q, _, _, hq, _⟩ := dd'; ⟨q, hq⟩
      exact h2 hv _ (I.write (x := d) (e := d) (by rw [e]; exact True.intro) (.inl rfl) (fun b q hb z => (hs'.2 b hb).trans z) he (dn_ok (dn_new (by have := putE_len kas k a x; omega) hs (rel_put rx rel) dd')))
theorem dn_at (I : Inv X pins σ H s) (e : Rd H d (DN X.w d kas)) : s.TypeIs (.ref d) "dict" ∧ (∀ b, Value.ref d = .ref b → ∃ ob, s.heap.get? b = some ob ∧ ob.dict = none) := by
  have x : ObjOk X.prog X.w H s.heap d (DN X.w d kas) := by
    rcases e with e | ⟨o, e⟩
    · exact I.hok d _ e
    · exact (I.hok d _ e).2
  obtain ⟨⟨_, _, xs, _, o, es, ep, h1, h2, _⟩, _⟩ := x
  exact ⟨⟨o, h1, h2.1⟩, fun b q => by cases q; exact ⟨o, h1, h2.2.1⟩⟩
end
/-! ### readings and rules -/
def tDNew (w : World) : TE := fun σ H Q => ∀ p, H p = none → Q (.ref p) (upd H p (DN w p []))
def tGetN (w : World) (td ty : TE) : TE := fun σ H Q => td σ H fun x H1 => ty σ H1 fun y H2 => ∃ d kas k a v, x = .ref d ∧ y = .ref a ∧ Rd H2 d (DN w d kas) ∧ Keys H2 kas ∧ NK H2 k (.ref a) ∧ k.depth ≤ 8 ∧ valE kas k = some v ∧ Q v H2
def tGet2N (w : World) (td ty tx : TE) : TE := fun σ H Q => td σ H fun x H1 => ∃ d kas0, x = .ref d ∧ Rd H1 d (DN w d kas0) ∧ ty σ H1 fun y H2 => tx σ H2 fun z H3 => ∃ kas k a, y = .ref a ∧ Rd H3 d (DN w d kas) ∧ Keys H3 kas ∧ NK H3 k (.ref a) ∧ k.depth ≤ 8 ∧ Q ((valE kas k).getD z) H3
def sPutN (w : World) (td ty tv : TE) : TS := fun D σ H => tv σ H fun v H1 => td σ H1 fun x H2 => ty σ H2 fun y H3 => ∃ d kas k a, x = .ref d ∧ y = .ref a ∧ H3 d = some (DN w d kas) ∧ Keys H3 kas ∧ NK H3 k (.ref a) ∧ k.depth ≤ 8 ∧ kas.length < sizeLine ∧ D.nx σ (upd H3 d (DN w d (putE kas k a v)))
def tSetdN (w : World) (td ty tx : TE) : TE := fun σ H Q => td σ H fun x H1 => ∃ d kas0, x = .ref d ∧ Rd H1 d (DN w d kas0) ∧ ty σ H1 fun y H2 => tx σ H2 fun z H3 => ∃ kas k a, y = .ref a ∧ H3 d = some (DN w d kas) ∧ Keys H3 kas ∧ NK H3 k (.ref a) ∧ k.depth ≤ 8 ∧ kas.length < sizeLine ∧
  (∀ v, valE kas k = some v → Q v H3) ∧ (valE kas k = none → Q z (upd H3 d (DN w d (putE kas k a z))))
section
variable {X : Cx} {o e f i value : Expr} {td ty tx tv : TE} {pos pos' apos cpos : Pos}
theorem pe_dnewN : PE X (.Dict [] [] pos) (tDNew X.w) := ⟨fun pins s σ H Q I h => by
  refine wpAny_Dict_empty ⟨.ref s.heap.objs.size, _, I.laid (a := s.heap.objs.size) (o := DN X.w s.heap.objs.size []) (t' := s.toks) (fun _ _ q => Heap.get?_push_of_some _ q) (Nat.le_refl _) (dn_ok ?_), rfl, h _ (I.hok.fresh (Nat.le_refl _))⟩
  have hb := I.big
  refine ⟨Nat.zero_le _, ?_, [], .nil, { cls := .type "dict", data := .dict #[] }, #[], _, Heap.get?_push_size _ rfl, ⟨rfl, rfl, rfl⟩, rfl, rfl, List.Pairwise.nil⟩
  exact beq_eq_false_iff_ne.mpr (fun z => by rw [z] at hb; exact Nat.lt_irrefl _ hb)⟩
theorem pe_getN (hu : X.A.units + 60 < cLine) (ho : PE X o td) (hi : PE X i ty) (hs : NoSl i) : PE X (.Subscript o i pos) (tGetN X.w td ty) := by
  refine ⟨fun pins s σ H Q I h => ?_⟩
  refine subD_of PySem.F.slot_dict_getitem.lookup hs (thn (ho.run pins s σ H _ I h) fun u s1 ⟨x, H1, I1, rx, q1⟩ => thn (hi.run pins s1 σ H1 _ I1 q1) fun iv s2 ⟨y, H2, I2, ry, d, kas, k, a, v, ex, ey, hd, hk, hn, hdp, hv, q2⟩ => ?_)
  subst ex ey
  obtain rfl : u = Value.ref d := rx
  obtain rfl : iv = Value.ref a := ry
  exact ⟨(dn_at I2 hd).1, dn_get hu I2 hd hk hn hdp hv fun w' s3 I3 rw' => ⟨v, H2, I3, rw', q2⟩⟩
theorem pe_get2N (hu : X.A.units + 60 < cLine) (ho : PE X o td) (he : PE X e ty) (hf : PE X f tx) (m : M2 X o "get" apos e f cpos) : PE X (.Call (.Attribute o "get" apos) [e, f] [] cpos) (tGet2N X.w td ty tx) := by
  refine ⟨fun pins s σ H Q I h => ?_⟩
  refine wpAny_Call_method m.base m.few m.line PySem.F.plainAttrs_dict PySem.F.slot_dict_get PySem.F.type_dict_get (thn (ho.run pins s σ H _ I h) fun u s1 ⟨x, H1, I1, rx, d, kas0, ex, hd0, q1⟩ => ?_)
  subst ex
  obtain rfl : u = Value.ref d := rx
  obtain ⟨t1, t2⟩ := dn_at I1 hd0
  refine ⟨t1, t2, ?_⟩
  rw [m.trees]
  refine Calls.callWith_builtin rfl (Calls.evalArgs_plain (Calls.spliced_cons (thn (he.run pins s1 σ H1 _ I1 q1) fun iv s2 ⟨y, H2, I2, ry, q2⟩ =>
    Calls.spliced_cons (thn (hf.run pins s2 σ H2 _ I2 q2) fun fv s3 ⟨z, H3, I3, rz, kas, k, a, ey, hd, hk, hn, hdp, q3⟩ => Calls.spliced_nil ?_))))
  subst ey
  obtain rfl : iv = Value.ref a := ry
  exact dn_get2 hu I3 hd hk hn hdp rz fun w' s4 I4 rw' => ⟨_, H3, I4, rw', q3⟩
theorem ps_putN (hu : X.A.units + 60 < cLine) (ho : PE X o td) (hi : PE X i ty) (hv : PE X value tv) (hs : swapsWith value (some (.Subscript o i pos')) pos.line X.env = pure false) :
    PS X (.Assign [.Subscript o i pos'] value pos) (sPutN X.w td ty tv) := by
  refine ⟨fun pins s σ H D I h => ?_⟩
  refine wpAny_Assign_Subscript (thn (hv.run pins s σ H _ I h) fun r s1 ⟨v, H1, I1, rv, q1⟩ => thn (ho.run pins s1 σ H1 _ I1 q1) fun u s2 ⟨x, H2, I2, rx, q2⟩ => thn (hi.run pins s2 σ H2 _ I2 q2) fun iv s3 ⟨y, H3, I3, ry, d, kas, k, a, ex, ey, hd, hk, hn, hdp, hl, q3⟩ => ?_) hs
  subst ex ey
  obtain rfl : u = Value.ref d := rx
  obtain rfl : iv = Value.ref a := ry
  exact dn_set hu I3 hd hk hn hdp hl rv fun s4 I4 => ⟨σ, _, I4, q3⟩
theorem pe_setdN (hu : X.A.units + 60 < cLine) (ho : PE X o td) (he : PE X e ty) (hf : PE X f tx) (m : M2 X o "setdefault" apos e f cpos) : PE X (.Call (.Attribute o "setdefault" apos) [e, f] [] cpos) (tSetdN X.w td ty tx) := by
  refine ⟨fun pins s σ H Q I h => ?_⟩
  refine wpAny_Call_method m.base m.few m.line PySem.F.plainAttrs_dict PySem.F.slot_dict_setdefault PySem.F.type_dict_setdefault (thn (ho.run pins s σ H _ I h) fun u s1 ⟨x, H1, I1, rx, d, kas0, ex, hd0, q1⟩ => ?_)
  subst ex
  obtain rfl : u = Value.ref d := rx
  obtain ⟨t1, t2⟩ := dn_at I1 hd0
  refine ⟨t1, t2, ?_⟩
  rw [m.trees]
  refine Calls.callWith_builtin rfl (Calls.evalArgs_plain (Calls.spliced_cons (thn (he.run pins s1 σ H1 _ I1 q1) fun iv s2 ⟨y, H2, I2, ry, q2⟩ =>
    Calls.spliced_cons (thn (hf.run pins s2 σ H2 _ I2 q2) fun fv s3 ⟨z, H3, I3, rz, kas, k, a, ey, hd, hk, hn, hdp, hl, q3, q4⟩ => Calls.spliced_nil ?_))))
  subst ey
  obtain rfl : iv = Value.ref a := ry
  exact dn_setd hu I3 hd hk hn hdp hl rz (fun v hv w' s4 I4 rw' => ⟨v, _, I4, rw', q3 v hv⟩) fun hv s4 I4 => ⟨z, _, I4, rz, q4 hv⟩
end
/-! ### for k in d, list(d) -/
def ItN (w : World) (d : Addr) (o : Obj) (kas : List Ent) : It :=
  ⟨fun i H => H d = some (.frz o (DN w d kas)) ∧ i < kas.length, fun i H x H' => H' = H ∧ ∃ e : Ent, kas[i]? = some e ∧ x = .ref e.2.1, fun i H => H d = some (.frz o (DN w d kas)) ∧ kas.length ≤ i⟩
section
variable {X : Cx} {pins : List (Addr × Obj)} {σ : L2.St} {H : Hp} {s : Shared} {d : Addr} {o : Obj}
theorem frzN {kas : List Ent} (I : Inv X pins σ H s) (h : H d = some (.frz o (DN X.w d kas))) :
    (d == sysModules) = false ∧ s.heap.get? d = some o ∧ o.ExactDict ∧ ∃ (es : Array DictEntry) (ep : Nat), o.data = .dict es ep ∧ es.size = kas.length ∧ ∀ (i : Nat) (e : Ent), kas[i]? = some e → ∃ en : DictEntry, es[i]? = some en ∧ en.key = .ref e.2.1 := by
  obtain ⟨hd, ⟨z, hs, xs, pr, o', es, ep, ho, hx, hdt, he, _⟩, _⟩ := I.hok d _ h
  rw [hd] at ho
  cases ho
  refine ⟨hs, hd, hx, es, ep, hdt, ?_, fun i e hi => ?_⟩
  · have l1 := congrArg List.length he
    rw [Array.length_toList, List.length_map, ← Paired.length pr] at l1
    exact l1
  · obtain ⟨b, hb, e1, e2, _⟩ := L2.paired_get pr hi
    have q : es.toList[i]? = some (entW X.w b) := by rw [he, List.getElem?_map, hb]; rfl
    rw [Array.getElem?_toList] at q
    exact ⟨_, q, by show Value.ref b.2.1 = _; rw [e2]⟩
end
section
variable {P : Program} {w : World} {K : PySem.W.Frag} {tg : Expr} {d : Addr} {o : Obj} {es : Array DictEntry} {ep : Nat}
theorem turn_keysN {kas : List Ent} (it : Addr) (hod : o.data = .dict es ep) : Turn P w K tg (ItN w d o kas) [it] it (fun i h => h.IsKeyIter it d i kas.length ep) where
  mem := by simp
  obj := fun i h st b hb => by
    have e : b = it := by simpa using hb
    subst e
    obtain ⟨oi, e, c, dd⟩ := st
    exact ⟨oi, e, fun v z => by rw [dd] at z; cases z⟩
  keep := fun i h h' st k => st.at fun oi e => k it (by simp) oi e
  item := by
    intro X hP hw hK hc i pins s σ H E I hf st hg
    subst hP hw hK
    obtain ⟨hd, hi⟩ := hg
    obtain ⟨f0, f1, f2, f3, f4, f5⟩ := hf it (by simp)
    obtain ⟨hs, hgd, hx, es', ep', hdt, hsz, ent⟩ := frzN I hd
    obtain ⟨rfl, rfl⟩ := dict_ep hod hdt
    obtain ⟨e, hkv⟩ : ∃ p, kas[i]? = some p := ⟨kas[i], List.getElem?_eq_getElem hi⟩
    obtain ⟨en, hen, hkey⟩ := ent i e hkv
    refine next_key_item st hgd hdt hsz hen fun h' st' sb => ?_
    have I1 : Inv X pins σ H { s with heap := h' } := I.turned (t' := s.toks) (fun b ob hb e => (sb.2 b hb).trans e) f0 f1 f3 f4 f5
    obtain ⟨oi, e', c, dd⟩ := id st'
    exact ⟨en.key, rfl, go_of (s := { s with heap := h' }) e' c dd (by decide) ⟨.ref e.2.1, H, I1, hkey, ⟨rfl, e, hkv, rfl⟩, st', fun b hb => (hf b hb).1⟩⟩
  done := by
    intro X hP hw hK hc i pins s σ H E I hf st hg
    subst hP hw hK
    obtain ⟨hd, hi⟩ := hg
    obtain ⟨f0, f1, f2, f3, f4, f5⟩ := hf it (by simp)
    obtain ⟨hs, hgd, hx, es', ep', hdt, hsz, ent⟩ := frzN I hd
    obtain ⟨rfl, rfl⟩ := dict_ep hod hdt
    exact next_key_end (I.ok.hd hc) st hgd hdt hsz hi fun h' eb => ⟨rfl, I.turned (t' := s.toks) (fun b ob hb e => eb b ob hb e) f0 f1 f3 f4 f5⟩
  self := fun A i s Q E st h => by
    refine wpAny_pyIter_slot st.typeIs F.slot_dict_keyiterator_iter (wpAny_call_entry F.slot_dict_keyiterator_iter st.typeIs F.entry_dict_keyiterator_iter ?_ (F.args_dict_keyiterator_iter_1 _))
    show wpAny _ _ (ret (.ref it)) _ _ s
    exact wpAny_pure ⟨_, rfl, "dict_keyiterator", _, st.typeIs, F.slot_dict_keyiterator_next.lookup, h⟩
end
def iKeysN (w : World) (td : TE) : TI := fun σ H R => td σ H fun x H1 => ∃ d o kas, x = .ref d ∧ H1 d = some (.frz o (DN w d kas)) ∧ R (ItN w d o kas) H1
theorem pi_keysN {X : Cx} {tg e : Expr} {td : TE} (he : PE X e td) : PI X tg e (iKeysN X.w td) := by
  refine ⟨fun pins s σ H R I h => ?_⟩
  refine thn (he.run pins s σ H _ I h) fun u s1 ⟨x, H1, I1, rx, d, o, kas, ex, hd, q⟩ => ?_
  subst ex
  obtain rfl : u = Value.ref d := rx
  obtain ⟨hs, hgd, hx, es, ep, hdt, hsz, ent⟩ := frzN I1 hd
  refine iter_keys hs hgd hx hdt (pi_one (tk := s1.toks) I1 _ (turn_keysN _ hdt) ⟨_, Heap.get?_push_size _ rfl, rfl, ?_⟩ q)
  rw [hsz] <;> rfl
/-- list(d): the keys' tuples -/
def rListN (w : World) : List V → Hp → VK → Prop := fun xs H Q => ∃ d kas, xs = [V.ref d] ∧ Rd H d (DN w d kas) ∧ ∀ p, H p = none → Q (.ref p) (upd H p (.lst (kas.map fun e => V.ref e.2.1)))
theorem call_list_dN {X : Cx} (hc : X.calm = true) : CallR X (.type "list") (rListN X.w) := by
  intro pins s σ H xs us Q I r h
  obtain ⟨d, kas, rfl, hd, q⟩ := h
  obtain ⟨u, rfl, rx⟩ := r.one
  cases rx
  have x : ObjOk X.prog X.w H s.heap d (DN X.w d kas) := by
    rcases hd with e | ⟨o, e⟩
    · exact I.hok d _ e
    · exact (I.hok d _ e).2
  obtain ⟨⟨z, hs, ks, pr, o, es, ep, ho, hx, hdt, he, hn⟩, _⟩ := x
  have l1 : es.size = ks.length := by
    have := congrArg List.length he
    rw [Array.length_toList, List.length_map] at this
    exact this
  have l2 : kas.length = ks.length := Paired.length pr
  refine PySem.W.kdl_call (kdl_raw hs hx hdt) (I.ok.hd hc) ho (by omega) fun h' tk acc' c' kp e it => ?_
  have ea : acc'.toList = kas.map fun x => Value.ref x.2.1 := by
    have hl : acc'.toList.length = ks.length := by rw [Array.length_toList, it.1]; exact l1
    apply List.ext_getElem?
    intro j
    rw [List.getElem?_map]
    cases hj : acc'.toList[j]? with
    | none =>
      have h1 := List.getElem?_eq_none_iff.mp hj
      rw [List.getElem?_eq_none (by omega)]
      all_goals rfl
    | some v =>
      have hjl : j < kas.length := by
        have := (List.getElem?_eq_some_iff.mp hj).1
        omega
      obtain ⟨en, hen, hv⟩ := it.2 j v (by rw [← Array.getElem?_toList]; exact hj)
      rw [← Array.getElem?_toList, he, List.getElem?_map] at hen
      have hk : kas[j]? = some kas[j] := List.getElem?_eq_getElem hjl
      obtain ⟨b, hb, e1, e2, _⟩ := L2.paired_get pr hk
      rw [hb] at hen
      have e3 : entW X.w b = en := Option.some.inj hen
      rw [hk, hv, ← e3]
      show some (Value.ref b.2.1) = some (Value.ref kas[j].2.1)
      rw [e2]
  have rv : Vals (kas.map fun e => V.ref e.2.1) acc'.toList := by
    rw [ea]
    have := vals_refs (kas.map fun e => e.2.1)
    rw [List.map_map, List.map_map] at this
    exact this
  exact ⟨.ref _, upd H s.heap.objs.size (.lst (kas.map fun e => V.ref e.2.1)), I.laid (t' := tk) kp (Nat.le_refl _) ⟨by rw [List.length_map]; exact z, acc'.toList, c', rv, by rw [Array.toArray_toList]; exact e⟩, rfl, q _ (I.hok.fresh (Nat.le_refl _))⟩
end Sd

/-! Rules of our own: min of a list of data. -/
namespace Sd
open PySem L2 Evl PySem.Spec PyProof.Rows
theorem dpAll_of {γ : Type} {enc : γ → PyData} {K : PySem.W.Frag} {H : Hp} : ∀ {bs : List (V × γ)}, (∀ b ∈ bs, Dp K H b.1 (enc b.2)) → DpAll K H (bs.map (·.1)) (bs.map fun b => enc b.2)
  | [], _ => .nil
  | b :: r, h => .cons (h b List.mem_cons_self) (dpAll_of fun c hc => h c (List.mem_cons_of_mem _ hc))
def rMinV {γ : Type} (enc : γ → PyData) (K : PySem.W.Frag) : List V → Hp → VK → Prop := fun vs H Q => ∃ a, ∃ b0 : V × γ, ∃ bs : List (V × γ), vs = [.ref a] ∧ SqL K H a ((b0 :: bs).map (·.1)) ∧ (∀ b ∈ b0 :: bs, Dp K H b.1 (enc b.2)) ∧
  PySem.W.AlikeAll ((b0 :: bs).map fun b => enc b.2) ∧ PyData.depthAll ((b0 :: bs).map fun b => enc b.2) ≤ 40 ∧ ∀ b ∈ b0 :: bs, enc b.2 = PySem.W.minD (enc b0.2) (bs.map fun b => enc b.2) → Q b.1 H
theorem cr_minV {γ : Type} {enc : γ → PyData} {X : Cx} (hc : X.calm = true) (hu : X.A.units + 64 < cLine) : CallR X (.builtin "min") (rMinV enc X.K) := by
  intro pins s σ H vs us Q I r h
  obtain ⟨a, b0, bs, rfl, hs, hd, hal, hdep, q⟩ := h
  obtain ⟨its, rv, hl, hz⟩ := I.list hs
  rw [Vals.ref1 r]
  obtain ⟨as, hr⟩ := Dp.readsAll I _ _ _ (dpAll_of hd) rv
  have hal' : PySem.W.AlikeAll (enc b0.2 :: bs.map fun b => enc b.2) := hal
  refine PySem.W.min_list_data (x := enc b0.2) (xs := bs.map fun b => enc b.2) (as := as) (I.ok.hd hc) hl.isList (by simpa using hr) hal' (by simp only [List.map_cons] at hdep; omega) fun i v h' tk cs hv hrd hk => ?_
  have hv' : its[i]? = some v := by simpa using hv
  have hi : i < (b0 :: bs).length := by
    have h1 := (List.getElem?_eq_some_iff.mp hv').1
    have h2 := Vals.length rv
    rw [List.length_map] at h2
    omega
  have hb : (b0 :: bs)[i]? = some (b0 :: bs)[i] := List.getElem?_eq_getElem hi
  have mem : (b0 :: bs)[i] ∈ b0 :: bs := List.getElem_mem hi
  generalize (b0 :: bs)[i] = b at hb mem
  obtain ⟨u, hu', rx⟩ := Vals.get (i := i) (x := b.1) rv (by rw [List.getElem?_map, hb]; rfl)
  have : u = v := Option.some.inj (hu'.symm.trans hv')
  subst this
  obtain ⟨as1, r1⟩ := Dp.reads I _ _ _ (hd b mem) rx
  have e := Reads.unique (Reads.keeps hk r1) _ _ hrd
  exact ⟨b.1, H, I.kept hk, rx, q b mem e.1⟩
end Sd

/-! Rules of our own: count of a flat item in a list of flat items. -/
namespace Sd
open PySem L2 Evl PySem.Spec PyProof.Rows
def rCntV (K : PySem.W.Frag) : V → List V → Hp → VK → Prop := fun x xs H Q => ∃ (p : Addr) (ys : List V) (z : V), x = .ref p ∧ xs = [z] ∧ SqL K H p ys ∧ flatV z = true ∧ ys.all flatV = true ∧ Q (.int ((ys.countP fun y => eqV y z : Nat) : Int)) H
theorem cnt_eqU {x : V} : ∀ {ys : List V} {its : List Value}, Vals ys its → ys.all flatV = true → its.countP (eqU x) = ys.countP fun y => eqV y x
  | [], [], .nil, _ => rfl
  | y :: ys, u :: us, .cons r rs, f => by
    rw [List.all_cons, Bool.and_eq_true] at f
    rw [List.countP_cons, List.countP_cons, cnt_eqU rs f.2]
    have : eqU x u = eqV y x := by
      have := any_eqU (x := x) (xs := [y]) (.cons r .nil) (by simp [f.1])
      simpa [inV] using this
    rw [this]
theorem mt_countV {X : Cx} : MtR X "list.count" (rCntV X.K) := by
  intro pins s σ H x xs v us Q I rx rxs h
  obtain ⟨p, ys, z, rfl, rfl, hs, fz, fs, q⟩ := h
  cases rx
  obtain ⟨u, rfl, ru⟩ := rxs.one
  obtain ⟨its, rv, ⟨⟨cls, dd, data, sl⟩, n, ho, hc, hdn, hd⟩, hlen⟩ := I.list hs
  simp only at hc hd
  subst hc hd
  refine call_meets PySem.F.slot_list_count ⟨_, ho, rfl⟩ PySem.F.entry_list_count (PySem.F.args_list_count_2 _ _)
    (SeqAt.list_countAt p its.toArray n dd sl u (eqU z)) ⟨ho, fun y hy => mem_eqAt ru fz rv fs y (by simpa using hy), ?_⟩
  have ec : its.toArray.toList.countP (eqU z) = ys.countP fun y => eqV y z := cnt_eqU rv fs
  refine ⟨.int ((ys.countP fun y => eqV y z : Nat) : Int), H, I.tok _, ⟨s.toks, ?_⟩, q⟩
  show Value.int ((its.toArray.toList.countP (eqU z) : Nat) : Int) s.toks = Value.int ((ys.countP fun y => eqV y z : Nat) : Int) s.toks
  rw [ec]
end Sd

/-! what goes on in an except suite: isinstance of the caught error, any of bools -/
namespace Sd
open PySem PySem.Spec PyProof.Rows L2
/-- isinstance(e, c), e the exception that the suite holds, of whatever own class -/
def rIsX (K : PySem.W.Frag) (cls : Value) (d : Option Addr) (a : Addr) : List V → Hp → VK → Prop := fun xs H Q => ∃ D, cls = .ref D ∧ d = none ∧ ExcC K D ∧ rIsE K D a xs H Q
theorem call_isX {X : Cx} {a : Addr} {cls : Value} {d : Option Addr} {oe : Obj} {pn : List (Addr × Obj)} (hz : Zc cls d oe) (hf : ∃ vs, oe.data = .fields vs) : CallR (X.suite a ((a, oe) :: pn)) (.builtin "isinstance") (rIsX X.K cls d a) := by
  intro pins s σ H xs us Q I r h
  obtain ⟨D, rfl, rfl, C, h⟩ := h
  exact call_isE C hz hf pins s σ H xs us Q I r h
section
variable {prog : Program} {w : World} {A : Around} {E : Value → Shared → Prop} {s : Shared}
theorem pyNext_list_end_hot {it l x1 : Addr} {i : Nat} {items : Array Value} {Q : Option Value → Shared → Prop} (hot : HotX.HotAt A x1 s.heap) (hne : x1 ≠ it)
    (hit : s.heap.IsListIter it l i) (hl : s.heap.IsList l items) (hx : items[i]? = none)
    (hQ : ∀ h', (∀ b o, b ≠ it → s.heap.get? b = some o → h'.get? b = some o) → Q none { s with heap := h' }) : wpAny (model prog w) A (pyNext (.ref it)) Q E s := by
  obtain ⟨o, ho, hc, hd⟩ := id hit
  obtain ⟨ol, hol, _, nl, hdl⟩ := hl
  obtain ⟨hh, o1, vs1, h1, d1, c1⟩ := hot
  unfold pyNext
  refine wpAny_bind (wpAny_attempt (wpAny_callSpecial?_slot (name := Str.ofString "__next__") hit.typeIs slot_listiter_next
    (wpAny_call_entry slot_listiter_next hit.typeIs entry_listiter_next ?_ (args_listiter_next _))))
  show wpAny _ _ (field (.ref it) 0 >>= _) _ _ s
  refine wpAny_bind (wpAny_field ho hd (x := .ref l) rfl ?_)
  show wpAny _ _ (if (Value.ref l == Value.none) = true then _ else _) _ _ s
  rw [if_neg (show ¬ ((Value.ref l == Value.none) = true) from Bool.false_ne_true)]
  show wpAny _ _ (field (.ref it) 1 >>= _) _ _ s
  refine wpAny_bind (wpAny_field ho hd (x := .int i 0) rfl ?_)
  show wpAny _ _ (seqItems? (.ref l) >>= _) _ _ s
  refine wpAny_bind (wpAny_seqItems hol hdl ?_)
  simp only [Int.toNat_natCast, hx]
  refine wpAny_bind (wpAny_rule (wpAny_bind (wpAny_setField ho hd (by simp) ?_)))
  show wpAny _ _ (newExc (.type "StopIteration") [] >>= _) _ _ _
  refine wpAny_bind ?_
  simp only [newExc, newTuple]
  refine wpAny_bind (wpAny_newObj_type ?_ (by size_fits))
  refine wpAny_bind (m := firstArgMember _ _) (wpAny_of_eq (a := Value.none) (by first | rfl | (simp only [firstArgMember]; rfl)) ?_)
  refine wpAny_newObj_type ?_ (by size_fits)
  refine HotX.raiseNew_hot ⟨hh, o1, vs1, Heap.get?_push_of_some _ (Heap.get?_push_of_some _ ((Heap.get?_update_other _ _ hne.symm).trans h1)), d1, c1⟩ (Nat.ne_of_lt (Heap.lt_size (Heap.get?_push_of_some _ ((Heap.get?_update_other _ _ hne.symm).trans h1)))) (Heap.get?_push_size _ rfl) rfl (by first | (simp; done) | (simp; omega) | (simp only [Array.size_append]; simp; omega)) ?_
  refine wpAny_bind (wpAny_isInstance (T := "StopIteration") (b := true) ⟨_, Heap.get?_update_self _ (Heap.get?_push_size _ rfl) rfl, rfl⟩ isSubtype_stop ?_)
  refine wpAny_pure (hQ _ fun b o hb e => ?_)
  rw [Heap.get?_update_other _ _ (Nat.ne_of_gt (Heap.lt_size (Heap.get?_push_of_some _ ((Heap.get?_update_other _ _ hb.symm).trans e))))]
  exact Heap.get?_push_of_some _ (Heap.get?_push_of_some _ ((Heap.get?_update_other _ _ hb.symm).trans e))
end
theorem walks_list_hot {prog : Program} {w : World} {A : Around} {x1 : Addr} (I ax : Addr) (hne : ax ≠ I) (hx : x1 ≠ I) (items : Array Value) :
    Walks prog w A I [I, ax, x1] [I] items.size (fun i v => items[i]? = some v) (fun i h => h.IsListIter I ax i ∧ h.IsList ax items ∧ HotX.HotAt A x1 h) where
  sub := fun b hb => by simp at hb; simp [hb]
  frame := fun _ _ _ st hk => ⟨st.1.at fun o e => hk I (by simp) o e, st.2.1.at fun o e => hk ax (by simp) o e, by
    obtain ⟨hh, o1, vs1, h1, d1, c1⟩ := st.2.2
    exact ⟨hh, o1, vs1, hk x1 (by simp) _ h1, d1, c1⟩⟩
  item := fun i s Q E hi st hQ => by
    refine wpAny_pyNext_list_item st.1 st.2.1 (x := items[i]) (by simp [hi]) fun h' hit' hs' => ?_
    refine hQ _ h' s.toks (by simp [hi]) ⟨hit', st.2.1.extBut hs'.extBut hne, ?_⟩ fun b o hb e => hs'.extBut b o (fun h => hb (by simp [h])) e
    obtain ⟨hh, o1, vs1, h1, d1, c1⟩ := st.2.2
    exact ⟨hh, o1, vs1, hs'.extBut x1 _ hx h1, d1, c1⟩
  done := fun s Q E st hQ => pyNext_list_end_hot st.2.2 hx st.1 st.2.1 (by simp) fun h' he' => hQ h' s.toks fun b o hb e => he' b o (fun h => hb (by simp [h])) e
  self := fun _ _ _ _ st hQ => wpAny_pyIter_listiter st.1 hQ
/-- any(xs) of bools, while an exception is handled -/
theorem cr_anyH {X : Cx} (hc : L2H.HotC X) : CallR X (.builtin "any") (rAny X.K) := by
  intro pins s σ H vs us Q I r h
  obtain ⟨a, bs, rfl, hs, q⟩ := h
  obtain ⟨its, rv, hl, _⟩ := I.list hs
  rw [Vals.ref1 r]
  have hb := rv.bls
  obtain ⟨x1, hot⟩ := hc.at I
  refine call_any_walk (iter_any hl.isList fun s₂ e2 st hne => ?_)
  subst e2
  have hx : x1 ≠ s.heap.objs.size := by
    obtain ⟨_, _, _, e, _⟩ := hot
    exact Nat.ne_of_lt (Heap.lt_size e)
  refine ⟨_, _, _, _, _, _, _, rfl, walks_list_hot (A := X.A.in1) (x1 := x1) _ a hne hx its.toArray, ⟨st.1, st.2, ?_⟩, truth_bools hb, fun h' tk hk => ?_⟩
  · obtain ⟨hh, o1, vs1, h1, d1, c1⟩ := hot
    exact ⟨hh, o1, vs1, Heap.get?_push_of_some _ h1, d1, c1⟩
  refine ⟨.bl _, H, I.kept fun b o eo => hk b o (fun hmem => ?_) (Heap.get?_push_of_some _ eo), ?_, q⟩
  · rcases List.mem_cons.mp hmem with e1 | hmem
    · exact absurd (e1 ▸ Heap.lt_size eo) (Nat.lt_irrefl _)
    · cases hmem
  · show Value.bool _ = Value.bool _
    rw [← L2.any_range, hb, List.size_toArray, List.length_map]
theorem hotC_suite {X : Cx} {a : Addr} {oe : Obj} {pn : List (Addr × Obj)} {cls : Value} {d : Option Addr} (hz : L2N.Zn cls d oe) (hf : ∃ vs, oe.data = .fields vs) : L2H.HotC (X.suite a ((a, oe) :: pn)) := by
  obtain ⟨vs, hv⟩ := hf
  exact ⟨(a, oe), ⟨rfl, vs, hv, hz.2.2 vs hv⟩, List.mem_cons_self⟩
/-- try: tb / except c as i: ts; nothing else is let out -/
def tTry (K : PySem.W.Frag) (c : Value) (i : Nat) (tb : WX → TS) (ts : Addr → Value → Option Addr → TS) : TS := fun D σ H => tb (wAs K c i ts (fun _ _ _ _ => False) D) D σ H
theorem takes0N {X : Cx} : L2N.Takes X (fun _ _ _ _ => False) := fun _ _ x => by
  obtain ⟨_, _, _, _, _, _, _, _, _, _, _, _, _, _, _, _, z⟩ := x
  exact z.elim
theorem ps_tryN {X : Cx} {x n : Str} {c : Value} {i : Nat} {body suite : List Stmt} {b₀ : Stmt} {np pos pos' : Pos} {tb : WX → TS} {ts : Addr → Value → Option Addr → TS} (hs : X.stack = X.env :: X.outer) (hf : X.env.frame = some X.env.locals) (hN : X.N.Nodup) (hi : X.N[i]? = some n) (hln : X.env.kindOf n = some .local) (hg : Gl X x) (hdb : (x == ("__debug__" : Str)) = false) (hm : X.mg x = some c)
    (hb : ∀ (W : WX) (pn : List (Addr × Obj)) (xe : Value → Shared → Prop), L2N.Takes (X.tr pn xe) W → PassesOwn (model X.prog X.w) X.A X.env xe → PSs (X.tr pn xe) body (tb W))
    (hsu : ∀ (a : Addr) (oe : Obj) (cls : Value) (d : Option Addr) (pn : List (Addr × Obj)), L2N.Zn cls d oe → (∃ vs, oe.data = .fields vs) → PSs (X.suite a ((a, oe) :: pn)) (b₀ :: suite) (ts a cls d)) :
    PS X (.Try body [.ExceptHandler (some (.Name x np)) (some n) (b₀ :: suite) pos'] [] [] pos) (tTry X.K c i tb ts) :=
  L2N.ps_try_as hs hf hN hi hln ⟨hg, hdb, .inl hm⟩ takes0N hb hsu
theorem passN {X : Cx} : Passes (L2N.CX X.prog X.w) X E0 := fun _ _ _ _ _ _ _ h => by
  obtain ⟨_, _, _, _, _, _, _, _, _, _, _, _, z⟩ := h
  exact z.elim
section
variable {P : Program} {w : World} {K : PySem.W.Frag} {mg : Str → Option Value} {base : Heap}
/-- as Fun.ok, for a def that may raise; the raised error's context is None -/
theorem Fun.okN {x qual : Str} {st : Stmt} {f : Addr} {fd : FuncData} {N ps : List Str} {k : Nat} {sp : Sp} (F : Fun K x qual st f fd) (S : FnScope N ps (defScope st)) (len : ∀ vs H Q E, sp vs H Q E → vs.length = ps.length)
    (hbody : ∀ (cdv : Value) (A : Around) (outer : List Env) (s : Shared) (H : Hp) (vs : List V) (Q : VK) (E : XK), Room k (A.deeper (envOfC qual (defScope st) s.heap.objs.size f cdv)) → sp vs H Q E →
      ∃ t, PSs (cxOf (L2N.CX P w) P w K mg base N qual (defScope st) f cdv A outer s H E) (defBody st) t ∧ t { nx := fun _ H' => Q .non H', rt := Q } (start N vs) H) : FnOk P w K mg base (L2N.CX P w) (k + 1) f fd ps sp := by
  obtain ⟨oc, od, kV, doc, pm, an, cdv, ct, osl, rfl, lk, hcd⟩ := F.ex
  exact fn_of lk hcd S len fun A outer s H vs Q E hr hsp => hbody cdv A outer s H vs Q E hr hsp
end
end Sd

/-! The walk of a ring: the program's steps are the rim's, one after another. -/
namespace Sd
open Sd.J
section
variable {h w : Nat} {cs : List Int}
theorem sa_0 (a : Cell) : sideAhead h w cs (a.1 + 1) (a.2 + 1) 0 = (Sc h w cs (nb a 1) != Sc h w cs (nb (nb a 1) 2)) := by
  show (inCell h w cs (a.1 + 1 - 1) (a.2 + 1) != inCell h w cs (a.1 + 1) (a.2 + 1)) = (inCell h w cs a.1 (a.2 + 1) != inCell h w cs (a.1 + 1) (a.2 + 1))
  rw [Int.add_sub_cancel]
theorem sa_1 (a : Cell) : sideAhead h w cs (a.1 + 1) (a.2 + 1) 1 = (Sc h w cs (nb (nb a 1) 2) != Sc h w cs (nb a 2)) := by
  show (inCell h w cs (a.1 + 1) (a.2 + 1) != inCell h w cs (a.1 + 1) (a.2 + 1 - 1)) = (inCell h w cs (a.1 + 1) (a.2 + 1) != inCell h w cs (a.1 + 1) a.2)
  rw [Int.add_sub_cancel]
theorem sa_2 (a : Cell) : sideAhead h w cs (a.1 + 1) (a.2 + 1) 2 = (Sc h w cs (nb a 2) != Sc h w cs a) := by
  show (inCell h w cs (a.1 + 1) (a.2 + 1 - 1) != inCell h w cs (a.1 + 1 - 1) (a.2 + 1 - 1)) = (inCell h w cs (a.1 + 1) a.2 != inCell h w cs a.1 a.2)
  rw [Int.add_sub_cancel, Int.add_sub_cancel]
theorem sa_3 (a : Cell) : sideAhead h w cs (a.1 + 1) (a.2 + 1) 3 = (Sc h w cs a != Sc h w cs (nb a 1)) := by
  show (inCell h w cs (a.1 + 1 - 1) (a.2 + 1 - 1) != inCell h w cs (a.1 + 1 - 1) (a.2 + 1)) = (inCell h w cs a.1 a.2 != inCell h w cs a.1 (a.2 + 1))
  rw [Int.add_sub_cancel, Int.add_sub_cancel]
theorem ways_at (a : Cell) (t : Nat) : ways h w cs (a.1 + 1) (a.2 + 1) t = [0, 1, 2, 3].filter fun y => !decide (y = (t + 2) % 4) && (match y with
    | 0 => Sc h w cs (nb a 1) != Sc h w cs (nb (nb a 1) 2) | 1 => Sc h w cs (nb (nb a 1) 2) != Sc h w cs (nb a 2) | 2 => Sc h w cs (nb a 2) != Sc h w cs a | _ => Sc h w cs a != Sc h w cs (nb a 1)) := by
  unfold ways
  rw [show List.range 4 = [0, 1, 2, 3] from rfl]
  refine List.filter_congr fun y hy => ?_
  simp only [List.mem_cons, List.not_mem_nil, or_false] at hy
  rcases hy with rfl | rfl | rfl | rfl
  · rw [sa_0]; rfl
  · rw [sa_1]; rfl
  · rw [sa_2]; rfl
  · rw [sa_3]; rfl
/-- no point of four sides: ahead is just the next side of the rim -/
theorem ways_succ (nd : ∀ a, ¬ Deg4 (Sc h w cs) a) {e : Side} (he : Rim (Sc h w cs) e) : ways h w cs (head e).1 (head e).2 e.2.val = [(succ (Sc h w cs) e).2.val] := by
  obtain ⟨a, ha⟩ : ∃ a : Cell, head e = (a.1 + 1, a.2 + 1) := ⟨cor e, cor_head e⟩
  have n4 := nd a
  unfold Deg4 at n4
  rw [ha]
  show ways h w cs (a.1 + 1) (a.2 + 1) e.2.val = _
  rw [ways_at]
  rcases in_of ha with rfl | rfl | rfl | rfl
  · obtain ⟨h1, h2⟩ := he
    dsimp only at h1 h2
    rw [succ_a]
    dsimp only
    rw [show ((1 : Fin 4).val + 2) % 4 = 3 from by decide]
    revert n4
    generalize Sc h w cs (nb a 2) = d
    generalize Sc h w cs (nb (nb a 1) 2) = c
    rw [h1, h2]
    cases c <;> cases d <;> intro n4 <;> first | rfl | exact absurd ⟨rfl, rfl, by decide⟩ n4
  · obtain ⟨h1, h2⟩ := he
    dsimp only at h1 h2
    rw [succ_b]
    dsimp only
    rw [show ((2 : Fin 4).val + 2) % 4 = 0 from by decide]
    revert n4
    generalize Sc h w cs (nb a 2) = d
    generalize Sc h w cs a = c
    rw [h1, h2]
    cases c <;> cases d <;> intro n4 <;> first | rfl | exact absurd ⟨rfl, rfl, by decide⟩ n4
  · obtain ⟨h1, h2⟩ := he
    dsimp only at h1 h2
    rw [nb_c3] at h2
    rw [succ_c]
    dsimp only
    rw [show ((3 : Fin 4).val + 2) % 4 = 1 from by decide]
    revert n4
    generalize Sc h w cs (nb a 1) = d
    generalize Sc h w cs a = c
    rw [h1, h2]
    cases c <;> cases d <;> intro n4 <;> first | rfl | exact absurd ⟨rfl, rfl, by decide⟩ n4
  · obtain ⟨h1, h2⟩ := he
    dsimp only at h1 h2
    rw [nb_d0] at h2
    rw [succ_d]
    dsimp only
    rw [show ((0 : Fin 4).val + 2) % 4 = 2 from by decide]
    revert n4
    generalize Sc h w cs (nb a 1) = d
    generalize Sc h w cs (nb (nb a 1) 2) = c
    rw [h1, h2]
    cases c <;> cases d <;> intro n4 <;> first | rfl | exact absurd ⟨rfl, rfl, by decide⟩ n4
theorem head_step (e : Side) : head e = ((tail e).1 + (stepOf e.2.val).1, (tail e).2 + (stepOf e.2.val).2) := by
  obtain ⟨⟨r, c⟩, s⟩ := e
  revert s
  refine fin4 _ ?_ ?_ ?_ ?_ <;> (refine Prod.ext ?_ ?_ <;> simp [head, tail, stepOf] <;> omega)
/-- the points of the rim from a side on, in turn -/
def rimPts (S : Cell → Bool) (e : Side) (N : Nat) : List Pt := (List.range N).map fun j => tail (it S e j)
theorem walk_from (nd : ∀ a, ¬ Deg4 (Sc h w cs) a) {e : Side} (he : Rim (Sc h w cs) e) {N : Nat} (p : Per (Sc h w cs) e N) :
    ∀ (m k : Nat) (f : List Pt), m + k + 1 = N → ∀ n, m + 1 ≤ n → f = rimPts (Sc h w cs) e (k + 1) → walkGo h w cs (tail e).1 (tail e).2 n f (it (Sc h w cs) e k).2.val (head (it (Sc h w cs) e k)).1 (head (it (Sc h w cs) e k)).2 = some (rimPts (Sc h w cs) e N) := by
  intro m
  induction m with
  | zero =>
    intro k f hk n hn hf
    obtain ⟨n, rfl⟩ : ∃ n', n = n' + 1 := ⟨n - 1, by omega⟩
    have hN : k + 1 = N := by omega
    have e1 : head (it (Sc h w cs) e k) = tail e := by
      rw [← tail_succ (S := Sc h w cs)]
      show tail (it (Sc h w cs) e (k + 1)) = _
      rw [hN, p.1.2]
    unfold walkGo
    rw [e1, if_pos ⟨rfl, rfl⟩, hf, hN]
  | succ m ih =>
    intro k f hk n hn hf
    obtain ⟨n, rfl⟩ : ∃ n', n = n' + 1 := ⟨n - 1, by omega⟩
    have rk := it_rim he k
    have rk1 := it_rim he (k + 1)
    have ts : head (it (Sc h w cs) e k) = tail (it (Sc h w cs) e (k + 1)) := (tail_succ (S := Sc h w cs) _).symm
    have ne : ¬ ((head (it (Sc h w cs) e k)).1 = (tail e).1 ∧ (head (it (Sc h w cs) e k)).2 = (tail e).2) := fun z => by
      have : tail (it (Sc h w cs) e (k + 1)) = tail e := by rw [← ts]; exact Prod.ext z.1 z.2
      exact p.2 (k + 1) (by omega) ⟨by omega, tail_inj nd rk1 he this⟩
    unfold walkGo
    rw [if_neg ne, ways_succ nd rk]
    show walkGo h w cs (tail e).1 (tail e).2 n (f ++ [((head (it (Sc h w cs) e k)).1, (head (it (Sc h w cs) e k)).2)]) (it (Sc h w cs) e (k + 1)).2.val _ _ = _
    have hs := head_step (it (Sc h w cs) e (k + 1))
    have := ih (k + 1) (f ++ [head (it (Sc h w cs) e k)]) (by omega) n (by omega) (by
      rw [hf]
      unfold rimPts
      rw [List.range_succ (n := k + 1), List.map_append, ts]
      rfl)
    rw [hs] at this
    rw [← ts] at this
    exact this
theorem grid_few : (List.range 7).all (fun h => (List.range 7).all fun w => decide ((gridSides h w).length ≤ 144)) = true := by decide +kernel
theorem per_few (gk : GOk h w) {e : Side} (he : Rim (Sc h w cs) e) {N : Nat} (p : Per (Sc h w cs) e N) : N ≤ 144 := by
  obtain ⟨g1, g2, g3, g4⟩ := gk
  have h1 := nodup_len (per_nodup he p) (m := gridSides h w) (fun o ho => by
    obtain ⟨i, _, rfl⟩ := List.mem_map.mp ho
    exact mem_gridSides (sc_iff.mp (it_rim he i).1).1)
  rw [List.length_map, List.length_range] at h1
  have a := List.all_eq_true.mp grid_few h (List.mem_range.mpr (by omega))
  have b := List.all_eq_true.mp a w (List.mem_range.mpr (by omega))
  have := of_decide_eq_true b
  omega
/-- the first side gone along -/
def fstSide (w : Nat) (cs : List Int) : Side := (cellOf w (cs.headD 0), 0)
/-- the walk of a ring is round its rim -/
theorem walk_ring (gk : GOk h w) (ck : COk h w cs) (hr : isRing h w cs = true) : ∃ N, Per (Sc h w cs) (fstSide w cs) N ∧ walkOf h w cs = some (rimPts (Sc h w cs) (fstSide w cs) N) := by
  obtain ⟨nd, one⟩ := (isRing_iff gk ck).mp hr
  have he := first_rim gk ck
  obtain ⟨N, p⟩ := per_ex (sc_within h w cs) he
  refine ⟨N, p, ?_⟩
  have few := per_few gk he p
  have pos := p.1.1
  have := walk_from nd he p (N - 1) 0 [tail (cellOf w (cs.headD 0), 0)] (by omega) 200 (by omega) rfl
  exact this
/-- as many points as sides; each side once; the first point the least -/
theorem rim_pairs (gk : GOk h w) (ck : COk h w cs) (hr : isRing h w cs = true) {us : List Sd2} (ir : IsRim (Sc h w cs) us) {N : Nat} (p : Per (Sc h w cs) (fstSide w cs) N) :
    N = us.length ∧ ((List.range N).map fun j => und (it (Sc h w cs) (fstSide w cs) j)).Perm us := by
  obtain ⟨nd, one⟩ := (isRing_iff gk ck).mp hr
  have he : Rim (Sc h w cs) (fstSide w cs) := first_rim gk ck
  have hl := (per_len ir he p).2.mpr one
  refine ⟨hl, ?_⟩
  have nd2 : ((List.range N).map fun j => und (it (Sc h w cs) (fstSide w cs) j)).Nodup := by
    have h0 := per_nodup he p
    unfold List.Nodup at h0 ⊢
    rw [List.pairwise_map] at h0 ⊢
    exact h0.imp fun {i j} hij z => hij (und_rim (it_rim he i) (it_rim he j) z)
  refine (List.perm_ext_iff_of_nodup nd2 ir.nd).mpr fun u => ?_
  rw [ir.mem]
  constructor
  · intro hu
    obtain ⟨j, _, rfl⟩ := List.mem_map.mp hu
    exact ⟨_, it_rim he j, rfl⟩
  · rintro ⟨f, hf, rfl⟩
    obtain ⟨i, rfl⟩ := one _ f he hf
    obtain ⟨k, hk, e1⟩ := per_mod p i
    exact List.mem_map.mpr ⟨k, List.mem_range.mpr hk, by rw [e1]⟩
/-- the order of points -/
def ptLe (p q : Pt) : Prop := p.1 < q.1 ∨ (p.1 = q.1 ∧ p.2 ≤ q.2)
theorem first_least (gk : GOk h w) (ck : COk h w cs) {e : Side} (he : Rim (Sc h w cs) e) : ptLe (tail (fstSide w cs)) (tail e) := by
  obtain ⟨g1, hm⟩ := sc_iff.mp he.1
  have hl := head_least ck.2.2 _ hm
  have hb := ck.2.1 _ (head_mem ck.1)
  have h1 := idx_cell gk (cs.headD 0)
  have g0 := cell_inG gk hb.1 hb.2
  obtain ⟨x, s⟩ := e
  unfold fstSide ptLe
  show (cellOf w (cs.headD 0)).1 < _ ∨ _
  rw [← h1] at hl
  unfold idx at hl
  generalize cellOf w (cs.headD 0) = a at *
  obtain ⟨⟨_, _⟩, ⟨a3, a4⟩⟩ := g0
  obtain ⟨⟨_, _⟩, ⟨x3, x4⟩⟩ := g1
  dsimp only at *
  have le : a.1 < x.1 ∨ (a.1 = x.1 ∧ a.2 ≤ x.2) := by
    rcases Int.lt_trichotomy a.1 x.1 with z | z | z
    · exact .inl z
    · rw [z] at hl
      exact .inr ⟨z, by omega⟩
    · exfalso
      have : (x.1 + 1) * (w : Int) ≤ a.1 * w := Int.mul_le_mul_of_nonneg_right (by omega) (by omega)
      rw [Int.add_mul] at this
      omega
  revert s
  refine fin4 _ ?_ ?_ ?_ ?_ <;> intro _ <;> simp only [tail] <;> omega
end
end Sd

/-! Rules of our own: min and max of two data. -/
namespace PySem.W
open PySem PySem.SeqAt PyProof.Rows
section
variable {prog : Program} {w : World} {A : Around} {E : Value → Shared → Prop} {s : Shared}
theorem sd_min_twoH {a b : Value} {Q : Value → Shared → Prop}
    (h : wpAny (model prog w) A.in1 (pyIter (.ref s.heap.objs.size)) (fun it s₂ => ∃ I fp wr G n P St H bt, it = .ref I ∧ WalksS prog w A.in1 I fp wr G n P St ∧ St 0 s₂ ∧ (∀ b ∈ fp, b < s₂.heap.objs.size) ∧ 0 < n ∧
      (∀ b o, H.get? b = some o → b ∉ wr) ∧ (∀ b o, H.get? b = some o → s₂.heap.get? b = some o) ∧ CmpIn prog w A.in1 .Lt H P bt ∧ ∀ v s', P (argBest bt (n - 1)) v → Moved wr G s₂ s' → Q v s') E { s with heap := s.heap.push { cls := .type "tuple", data := .seq #[a, b] } }) :
    wpAny (model prog w) A (call (.builtin "min") [a, b]) Q E s := by
  have hname : (toString "min" ++ toString ".loop" : String) = "min.loop" := by decide
  refine call_function_tree F.kind_min F.plain_min F.entry_min (F.args_min2 _ _) ?_
  show wpAny _ A.in1 (Builtin.Builtins.bindParams "min" ["key", "default"] 0 ⟨[], []⟩ >>= _) _ _ s
  refine wpAny_bind (wpAny_of_eq (show Builtin.Builtins.bindParams "min" ["key", "default"] 0 ⟨[], []⟩ = pure [none, none] from rfl) ?_)
  show wpAny _ A.in1 (newTuple [a, b] >>= _) _ _ s
  refine wpAny_bind (wpAny_newObj_type ?_)
  refine wpAny_bind (wpAny_mono h (fun it s₂ h₂ => ?_) fun _ _ e => e)
  obtain ⟨I, fp, wr, G, n, P, St, H, bt, rfl, W, hst, hfp, hn, hw, hkeep, hcmp, hQ⟩ := h₂
  refine wpAny_bind (wpAny_newObj_type ?_)
  have hSf : s₂.heap.objs.size ∉ fp := fun hm => Nat.lt_irrefl _ (hfp _ hm)
  rw [hname]
  refine wpAny_pure ⟨plainId_quiet F.plain_min_loop _, codeAny_min_loop_firstH W H hw bt hcmp s₂.heap.objs.size hSf (fresh_in hkeep) _ hn (fun b o e => Heap.get?_push_of_some _ (hkeep b o e)) (W.frame 0 s₂ _ s₂.toks hst (Nat.le_refl _) fun b _ o e => Heap.get?_push_of_some _ e) (Heap.get?_push_size _ rfl) fun v s' hP hm => ?_⟩
  exact hQ v s' hP (Moved.drop_new (tk := s₂.toks) hm (Nat.le_refl _))
theorem sd_max_twoH {a b : Value} {Q : Value → Shared → Prop}
    (h : wpAny (model prog w) A.in1 (pyIter (.ref s.heap.objs.size)) (fun it s₂ => ∃ I fp wr G n P St H bt, it = .ref I ∧ WalksS prog w A.in1 I fp wr G n P St ∧ St 0 s₂ ∧ (∀ b ∈ fp, b < s₂.heap.objs.size) ∧ 0 < n ∧
      (∀ b o, H.get? b = some o → b ∉ wr) ∧ (∀ b o, H.get? b = some o → s₂.heap.get? b = some o) ∧ CmpIn prog w A.in1 .Gt H P bt ∧ ∀ v s', P (argBest bt (n - 1)) v → Moved wr G s₂ s' → Q v s') E { s with heap := s.heap.push { cls := .type "tuple", data := .seq #[a, b] } }) :
    wpAny (model prog w) A (call (.builtin "max") [a, b]) Q E s := by
  have hname : (toString "max" ++ toString ".loop" : String) = "max.loop" := by decide
  refine call_function_tree F.kind_max F.plain_max F.entry_max (F.args_max2 _ _) ?_
  show wpAny _ A.in1 (Builtin.Builtins.bindParams "max" ["key", "default"] 0 ⟨[], []⟩ >>= _) _ _ s
  refine wpAny_bind (wpAny_of_eq (show Builtin.Builtins.bindParams "max" ["key", "default"] 0 ⟨[], []⟩ = pure [none, none] from rfl) ?_)
  show wpAny _ A.in1 (newTuple [a, b] >>= _) _ _ s
  refine wpAny_bind (wpAny_newObj_type ?_)
  refine wpAny_bind (wpAny_mono h (fun it s₂ h₂ => ?_) fun _ _ e => e)
  obtain ⟨I, fp, wr, G, n, P, St, H, bt, rfl, W, hst, hfp, hn, hw, hkeep, hcmp, hQ⟩ := h₂
  refine wpAny_bind (wpAny_newObj_type ?_)
  have hSf : s₂.heap.objs.size ∉ fp := fun hm => Nat.lt_irrefl _ (hfp _ hm)
  rw [hname]
  refine wpAny_pure ⟨plainId_quiet F.plain_max_loop _, codeAny_max_loop_firstH W H hw bt hcmp s₂.heap.objs.size hSf (fresh_in hkeep) _ hn (fun b o e => Heap.get?_push_of_some _ (hkeep b o e)) (W.frame 0 s₂ _ s₂.toks hst (Nat.le_refl _) fun b _ o e => Heap.get?_push_of_some _ e) (Heap.get?_push_size _ rfl) fun v s' hP hm => ?_⟩
  exact hQ v s' hP (Moved.drop_new (tk := s₂.toks) hm (Nat.le_refl _))
theorem sd_min_two {a b : Value} {x y : PyData} {as : List Addr} {Q : Value → Shared → Prop} (hh : A.handled = none) (hr : ReadsAll s.heap [a, b] [x, y] as) (ha : AlikeAll [x, y]) (hu : A.units + 1 + PyData.depthAll [x, y] < cLine)
    (h : ∀ v h' tk bs, (v = a ∨ v = b) → Reads h' v (minD x [y]) bs → (∀ b o, s.heap.get? b = some o → h'.get? b = some o) → Q v { s with heap := h', toks := tk }) :
    wpAny (model prog w) A (call (.builtin "min") [a, b]) Q E s := by
  have k0 : ∀ c o, s.heap.get? c = some o → (s.heap.push { cls := .type "tuple", data := .seq #[a, b] }).get? c = some o := fun c o e => Heap.get?_push_of_some _ e
  have hT : (s.heap.push { cls := .type "tuple", data := .seq #[a, b] }).IsTuple s.heap.objs.size #[a, b] := ⟨_, Heap.get?_push_size _ rfl, rfl, 0, rfl⟩
  have hr2 : ReadsAll (s.heap.push { cls := .type "tuple", data := .seq #[a, b] }) (#[a, b] : Array Value).toList [x, y] as := ReadsAll.keeps k0 hr
  refine sd_min_twoH (iter_tupleW (s := { s with heap := s.heap.push { cls := .type "tuple", data := .seq #[a, b] } }) (A := A.in1) hh hT fun s₂ e W st hfp hw hk => ?_)
  refine ⟨_, _, _, _, _, _, _, _, _, rfl, W, st, hfp, by show 0 < 2; decide, hw, hk, cmpIn_lt (A := A.in1) hr2 ha (by show A.units + 1 + _ < _; exact hu), fun v s' hP m => ?_⟩
  obtain ⟨h', tk, rfl, hk'⟩ := moved_old e rfl m
  obtain ⟨bs, r, _, _, _⟩ := readsAll_atA hr2 _ v hP
  have e2 := (argBest_fold dataLt PyData.none x [y] 1 (Nat.le_refl _)).2
  have hv : v = a ∨ v = b := by
    have := List.mem_of_getElem? (show ([a, b] : List Value)[_]? = some v by simpa using hP)
    simpa using this
  exact h v h' tk bs hv (reads_keeps hk' (by unfold minD; rw [show ([y] : List PyData) = [y].take 1 from rfl, ← e2]; exact r)) fun c o ec => hk' c o (k0 c o ec)
theorem sd_max_two {a b : Value} {x y : PyData} {as : List Addr} {Q : Value → Shared → Prop} (hh : A.handled = none) (hr : ReadsAll s.heap [a, b] [x, y] as) (ha : AlikeAll [x, y]) (hu : A.units + 1 + PyData.depthAll [x, y] < cLine)
    (h : ∀ v h' tk bs, (v = a ∨ v = b) → Reads h' v (maxD x [y]) bs → (∀ b o, s.heap.get? b = some o → h'.get? b = some o) → Q v { s with heap := h', toks := tk }) :
    wpAny (model prog w) A (call (.builtin "max") [a, b]) Q E s := by
  have k0 : ∀ c o, s.heap.get? c = some o → (s.heap.push { cls := .type "tuple", data := .seq #[a, b] }).get? c = some o := fun c o e => Heap.get?_push_of_some _ e
  have hT : (s.heap.push { cls := .type "tuple", data := .seq #[a, b] }).IsTuple s.heap.objs.size #[a, b] := ⟨_, Heap.get?_push_size _ rfl, rfl, 0, rfl⟩
  have hr2 : ReadsAll (s.heap.push { cls := .type "tuple", data := .seq #[a, b] }) (#[a, b] : Array Value).toList [x, y] as := ReadsAll.keeps k0 hr
  refine sd_max_twoH (iter_tupleW (s := { s with heap := s.heap.push { cls := .type "tuple", data := .seq #[a, b] } }) (A := A.in1) hh hT fun s₂ e W st hfp hw hk => ?_)
  refine ⟨_, _, _, _, _, _, _, _, _, rfl, W, st, hfp, by show 0 < 2; decide, hw, hk, cmpIn_gt (A := A.in1) hr2 ha (by show A.units + 1 + _ < _; exact hu), fun v s' hP m => ?_⟩
  obtain ⟨h', tk, rfl, hk'⟩ := moved_old e rfl m
  obtain ⟨bs, r, _, _, _⟩ := readsAll_atA hr2 _ v hP
  have e2 := (argBest_fold (fun a b => dataLt b a) PyData.none x [y] 1 (Nat.le_refl _)).2
  have hv : v = a ∨ v = b := by
    have := List.mem_of_getElem? (show ([a, b] : List Value)[_]? = some v by simpa using hP)
    simpa using this
  exact h v h' tk bs hv (reads_keeps hk' (by unfold maxD; rw [show ([y] : List PyData) = [y].take 1 from rfl, ← e2]; exact r)) fun c o ec => hk' c o (k0 c o ec)
end
end PySem.W
namespace Sd
open PySem L2 Evl PySem.Spec PyProof.Rows
def rMin2V {γ : Type} (enc : γ → PyData) (K : PySem.W.Frag) : List V → Hp → VK → Prop := fun vs H Q => ∃ b0 b1 : V × γ, vs = [b0.1, b1.1] ∧ Dp K H b0.1 (enc b0.2) ∧ Dp K H b1.1 (enc b1.2) ∧
  PySem.W.AlikeAll [enc b0.2, enc b1.2] ∧ PyData.depthAll [enc b0.2, enc b1.2] ≤ 40 ∧ (enc b0.2 = PySem.W.minD (enc b0.2) [enc b1.2] → Q b0.1 H) ∧ (enc b1.2 = PySem.W.minD (enc b0.2) [enc b1.2] → Q b1.1 H)
def rMax2V {γ : Type} (enc : γ → PyData) (K : PySem.W.Frag) : List V → Hp → VK → Prop := fun vs H Q => ∃ b0 b1 : V × γ, vs = [b0.1, b1.1] ∧ Dp K H b0.1 (enc b0.2) ∧ Dp K H b1.1 (enc b1.2) ∧
  PySem.W.AlikeAll [enc b0.2, enc b1.2] ∧ PyData.depthAll [enc b0.2, enc b1.2] ≤ 40 ∧ (enc b0.2 = PySem.W.maxD (enc b0.2) [enc b1.2] → Q b0.1 H) ∧ (enc b1.2 = PySem.W.maxD (enc b0.2) [enc b1.2] → Q b1.1 H)
theorem cr_min2V {γ : Type} {enc : γ → PyData} {X : Cx} (hc : X.calm = true) (hu : X.A.units + 64 < cLine) : CallR X (.builtin "min") (rMin2V enc X.K) := by
  intro pins s σ H vs us Q I r h
  obtain ⟨b0, b1, rfl, d0, d1, hal, hdep, q0, q1⟩ := h
  cases r with
  | cons r0 rr =>
    cases rr with
    | cons r1 rr =>
      cases rr
      obtain ⟨as, hr⟩ := Dp.readsAll I _ _ _ (.cons d0 (.cons d1 .nil)) (.cons r0 (.cons r1 .nil))
      refine PySem.W.sd_min_two (I.ok.hd hc) hr hal (by omega) fun v h' tk cs hv hrd hk => ?_
      rcases hv with rfl | rfl
      · obtain ⟨as1, e1⟩ := Dp.reads I _ _ _ d0 r0
        exact ⟨b0.1, H, I.kept hk, r0, q0 (Reads.unique (Reads.keeps hk e1) _ _ hrd).1⟩
      · obtain ⟨as1, e1⟩ := Dp.reads I _ _ _ d1 r1
        exact ⟨b1.1, H, I.kept hk, r1, q1 (Reads.unique (Reads.keeps hk e1) _ _ hrd).1⟩
theorem cr_max2V {γ : Type} {enc : γ → PyData} {X : Cx} (hc : X.calm = true) (hu : X.A.units + 64 < cLine) : CallR X (.builtin "max") (rMax2V enc X.K) := by
  intro pins s σ H vs us Q I r h
  obtain ⟨b0, b1, rfl, d0, d1, hal, hdep, q0, q1⟩ := h
  cases r with
  | cons r0 rr =>
    cases rr with
    | cons r1 rr =>
      cases rr
      obtain ⟨as, hr⟩ := Dp.readsAll I _ _ _ (.cons d0 (.cons d1 .nil)) (.cons r0 (.cons r1 .nil))
      refine PySem.W.sd_max_two (I.ok.hd hc) hr hal (by omega) fun v h' tk cs hv hrd hk => ?_
      rcases hv with rfl | rfl
      · obtain ⟨as1, e1⟩ := Dp.reads I _ _ _ d0 r0
        exact ⟨b0.1, H, I.kept hk, r0, q0 (Reads.unique (Reads.keeps hk e1) _ _ hrd).1⟩
      · obtain ⟨as1, e1⟩ := Dp.reads I _ _ _ d1 r1
        exact ⟨b1.1, H, I.kept hk, r1, q1 (Reads.unique (Reads.keeps hk e1) _ _ hrd).1⟩
end Sd

namespace Sd
open PySem L2 Evl
local macro_rules | `(tactic| walk_at "side") => `(tactic| first
  | assumption
  | rfl
  | decide
  | omega
  | (show (0 : Int) < _; omega)
  | (show (0 : Int) < _; decide)
  | exact ⟨by omega, by omega⟩
  | exact .inl ⟨by omega, by omega⟩
  | exact .inr ⟨by omega, by omega⟩
  | exact ⟨by decide, by decide, by decide⟩)
local macro_rules | `(tactic| walk_at "rv") => `(tactic| first
  | with_reducible exact rv_I0
  | ((with_reducible refine' rv_I ?rvc); (case rvc => walk_at "side"))
  | with_reducible exact rv_eq rfl
  | with_reducible exact rv_ne rfl)
local macro_rules | `(tactic| walk_at "es") => `(tactic| first
  | with_reducible assumption
  | ((with_reducible refine' es_of ?esa ?esb); (case esa => walk_at "ev"); (case esb => with_reducible assumption))
  | ((with_reducible refine' es_new ?esa); (case esa => walk_at "el")))
local macro_rules | `(tactic| walk_at "el") => `(tactic| first
  | with_reducible assumption
  | ((with_reducible refine' el_lst ?ela ?elb); (case ela => walk_at "ea"); (case elb => simp)))
local macro_rules | `(tactic| walk_at "est") => `(tactic| first
  | with_reducible assumption
  | ((with_reducible refine' est_of ?esa ?esb); (case esa => walk_at "ev"); (case esb => with_reducible assumption))
  | ((with_reducible refine' est_new (eu_tup ?esa ?esb)); (case esa => walk_at "ea"); (case esb => simp)))
local macro_rules | `(tactic| walk_at "ev") => `(tactic| first
  | ((with_reducible refine' ev_var ?eva); (case eva => rfl))
  | with_reducible exact ev_c
  | with_reducible assumption
  | ((with_reducible refine' ev_isIn ?eva ?evb); (case eva => walk_at "ev"); (case evb => walk_at "es"))
  | ((with_reducible refine' ev_notIn ?eva ?evb); (case eva => walk_at "ev"); (case evb => walk_at "es"))
  | ((with_reducible refine' ev_inT2 ?eva ?evb); (case eva => walk_at "ev"); (case evb => walk_at "est"))
  | ((with_reducible refine' ev_ixT ?eva ?evb ?evc); (case eva => walk_at "est"); (case evb => walk_at "ev"); (case evc => rfl))
  | ((with_reducible refine' ev_op ?eva ?evb ?evc); (case eva => walk_at "ev"); (case evb => walk_at "ev"); (case evc => walk_at "rv"))
  | ((with_reducible refine' ev_un ?eva ?evb); (case eva => walk_at "ev"); (case evb => exact ru_neg))
  | ((with_reducible refine' ev_chain ?eva ?evb ?evc (fun _ => ?evd) (fun _ => ?eve)); (case eva => walk_at "ev"); (case evb => walk_at "ev"); (case evc => walk_at "rv"); (case evd => walk_at "ev"); (case eve => walk_at "rv"))
  | ((with_reducible refine' ev_notV ?eva); (case eva => walk_at "ev"))
  | ((with_reducible refine' ev_andV ?eva (fun _ => ?evb)); (case eva => walk_at "ev"); (case evb => walk_at "ev"))
  | ((with_reducible refine' ev_orV ?eva (fun _ => ?evb)); (case eva => walk_at "ev"); (case evb => walk_at "ev"))
  | ((with_reducible refine' ev_lenS ?eva); (case eva => walk_at "es"))
  | ((with_reducible refine' ev_sumS ?eva); (case eva => walk_at "es")))
local macro_rules | `(tactic| walk_at "ea") => `(tactic| first
  | with_reducible exact ea_nil
  | ((with_reducible refine' ea_cons ?eaa ?eab); (case eaa => walk_at "ev"); (case eab => walk_at "ea")))
local macro_rules | `(tactic| walk_at "et") => `(tactic| first
  | with_reducible exact et_yes
  | with_reducible assumption
  | ((with_reducible refine' et_test ?eta); (case eta => walk_at "ev"))
  | ((with_reducible refine' et_B ?eta); (case eta => walk_at "ev"))
  | ((with_reducible refine' et_not ?eta); (case eta => walk_at "et"))
  | ((with_reducible refine' et_and ?eta (fun _ => ?etb)); (case eta => walk_at "et"); (case etb => walk_at "et"))
  | ((with_reducible refine' et_or ?eta (fun _ => ?etb)); (case eta => walk_at "et"); (case etb => walk_at "et")))

/-! ### is_whole -/
/-- the classes' places -/
structure Ad where
  (cBadGrid cBadCells cBadClues cNoRing cRingError cRing cSplit cHole cOne cTwo cNever cAnswer : Addr)
def RetE (c : Addr) (H : Hp) (E : XK) : Prop := ∀ H2, Ex H H2 → E (.ref c) none H2
def plainTypes : List String := ["NoneType", "bool", "int", "str", "list", "tuple", "dict"]
def isInt : V → Bool
  | .int _ => true
  | _ => false
/-- a value whose type is known -/
def Known (K : PySem.W.Frag) (H : Hp) (v : V) (n : String) : Prop := TyX K H v (.type n) ∧ n ∈ plainTypes
section
variable {K : PySem.W.Frag} {σ : L2.St} {H H' : Hp} {v : V} {n : String}
theorem TyOf.mono (e : Ex H H') {v : V} {t : Value} (h : TyOf K H v t) : TyOf K H' v t := by
  cases h with
  | non => exact .non
  | bl x => exact .bl x
  | int i => exact .int i
  | str x => exact .str x
  | flt x => exact .flt x
  | lst h => exact .lst (e _ _ h)
  | frz h => exact .frz (e _ _ h)
  | tup h => exact .tup (e _ _ h)
  | dK h => exact .dK (e _ _ h)
  | dT h => exact .dT (e _ _ h)
  | ins h a b c d f => exact .ins (e _ _ h) a b c d f
theorem TyX.mono (e : Ex H H') {v : V} {t : Value} (h : TyX K H v t) : TyX K H' v t := by
  cases h with
  | base h => exact .base (TyOf.mono e h)
  | byt b => exact .byt b
  | set h => exact .set (e _ _ h)
  | kList a b => exact .kList a b
  | kTuple a b => exact .kTuple a b
  | kDict a b => exact .kDict a b
  | fTuple h => exact .fTuple (e _ _ h)
  | fDict h => exact .fDict (e _ _ h)
theorem Known.mono (e : Ex H H') (h : Known K H v n) : Known K H' v n := ⟨TyX.mono e h.1, h.2⟩
theorem ty_list {a : Addr} {xs : List V} (h : SqL K H a xs) : TyX K H (.ref a) (.type "list") := by
  rcases h with (h | ⟨o, h⟩) | ⟨o, its, n, h, hc, _⟩
  · exact .base (.lst h)
  · exact .base (.frz h)
  · exact .kList h hc
theorem ty_tuple {a : Addr} {xs : List V} (h : SqT K H a xs) : TyX K H (.ref a) (.type "tuple") := by
  rcases h with (h | ⟨o, h⟩) | ⟨o, its, n, h, hc, _⟩
  · exact .base (.tup h)
  · exact .fTuple h
  · exact .kTuple h hc
theorem known_int (i : Int) : Known K H (.int i) "int" := ⟨.base (.int i), by decide⟩
theorem known_dp {d : PyData} (h : Dp K H v d) : ∃ n, Known K H v n := by
  cases h with
  | non => exact ⟨_, .base .non, by decide⟩
  | bl b => exact ⟨_, .base (.bl b), by decide⟩
  | int i => exact ⟨_, known_int i⟩
  | str x => exact ⟨_, .base (.str x), by decide⟩
  | lst h _ => exact ⟨_, ty_list h, by decide⟩
  | tup h _ => exact ⟨_, ty_tuple h, by decide⟩
/-- what isinstance says of the plain types -/
theorem kit_int : ∀ n ∈ plainTypes, PySem.W.kitOne K (.type n) (.type "int") = some (n == "int" || n == "bool") := by
  intro n hn
  have : kitB n "int" = some (n == "int" || n == "bool") := by
    revert n hn
    decide +kernel
  exact kit_ty this
theorem kit_bool : ∀ n ∈ plainTypes, PySem.W.kitOne K (.type n) (.type "bool") = some (n == "bool") := by
  intro n hn
  have : kitB n "bool" = some (n == "bool") := by
    revert n hn
    decide +kernel
  exact kit_ty this
theorem kit_list : ∀ n ∈ plainTypes, PySem.W.kitOne K (.type n) (.type "list") = some (n == "list") := by
  intro n hn
  have : kitB n "list" = some (n == "list") := by
    revert n hn
    decide +kernel
  exact kit_ty this
theorem kit_tuple : ∀ n ∈ plainTypes, PySem.W.kitOne K (.type n) (.type "tuple") = some (n == "tuple") := by
  intro n hn
  have : kitB n "tuple" = some (n == "tuple") := by
    revert n hn
    decide +kernel
  exact kit_ty this
theorem int_name (h : Known K H v n) : isInt v = (n == "int") := by
  obtain ⟨h, _⟩ := h
  cases h with
  | base h => cases h <;> rfl
  | kList => rfl
  | kTuple => rfl
  | kDict => rfl
  | fTuple => rfl
  | fDict => rfl
  | byt => rfl
  | set => rfl
variable {ta : TE}
theorem ev_isiInt (ha : Ev ta σ H v) (hk : Known K H v n) : Ev (tCB (rIsi K) (tCons ta (tCons (tC (.ty "int")) tNil))) σ H (.bl (n == "int" || n == "bool")) :=
  ev_isi ha ev_c (.ty "int") (fun _ e => (hk.mono e).1) (kit_int n hk.2)
theorem ev_isiBool (ha : Ev ta σ H v) (hk : Known K H v n) : Ev (tCB (rIsi K) (tCons ta (tCons (tC (.ty "bool")) tNil))) σ H (.bl (n == "bool")) :=
  ev_isi ha ev_c (.ty "bool") (fun _ e => (hk.mono e).1) (kit_bool n hk.2)
theorem ev_isiList (ha : Ev ta σ H v) (hk : Known K H v n) : Ev (tCB (rIsi K) (tCons ta (tCons (tC (.ty "list")) tNil))) σ H (.bl (n == "list")) :=
  ev_isi ha ev_c (.ty "list") (fun _ e => (hk.mono e).1) (kit_list n hk.2)
theorem ev_isiTuple (ha : Ev ta σ H v) (hk : Known K H v n) : Ev (tCB (rIsi K) (tCons ta (tCons (tC (.ty "tuple")) tNil))) σ H (.bl (n == "tuple")) :=
  ev_isi ha ev_c (.ty "tuple") (fun _ e => (hk.mono e).1) (kit_tuple n hk.2)
end
theorem whole_names : ∀ n ∈ plainTypes, ((n == "int" || n == "bool") && !(n == "bool")) = (n == "int") := by decide +kernel
def sp_is_whole (K : PySem.W.Frag) : Sp := fun vs H Q _ => ∃ v n, vs = [v] ∧ Known K H v n ∧ RetV (.bl (isInt v)) H Q
theorem ev_is_whole {K : PySem.W.Frag} {σ : L2.St} {H : Hp} {ta : TA} {E : XK} {v : V} {n : String} (ha : EvA ta σ H [v]) (hk : Known K H v n) : Ev (tCall (sp_is_whole K) [] E ta) σ H (.bl (isInt v)) := fun H1 e Q q =>
  ha H1 e _ fun H2 e2 => ⟨v, n, rfl, hk.mono (e.trans e2), fun H3 e3 => q H3 (e2.trans e3)⟩
def t_is_whole (K : PySem.W.Frag) : TS := (tRet (tAndV (tCB (rIsi K) (tCons (tVar 0) (tCons (tC (.ty "int")) tNil))) (tNotV (tCB (rIsi K) (tCons (tVar 0) (tCons (tC (.ty "bool")) tNil))))))
theorem pure_is_whole {K : PySem.W.Frag} {vs : List V} {H : Hp} {Q : VK} {E : XK} {D : Ends} (hD : D.rt = Q) (h : sp_is_whole K vs H Q E) : t_is_whole K D (start ["thing"] vs) H := by
  obtain ⟨v, n, rfl, hk, q⟩ := h
  subst hD
  refine s_ret (ev_andV (ev_isiInt (ev_var rfl) hk) (fun _ => ev_notV (ev_isiBool (ev_var rfl) hk))) fun H1 e1 => ?_
  have e : ((n == "int" || n == "bool") && !(n == "bool")) = isInt v := by
    rw [int_name hk]
    exact whole_names n hk.2
  rw [e]
  exact q H1 e1
/-! ### check_grid -/
/-- what is no grid -/
def badDim (v : V) : Prop := ∀ n, v = .int n → ¬ (1 ≤ n ∧ n ≤ 6)
def BadG (K : PySem.W.Frag) (H : Hp) (v : V) : Prop := (∃ n, Known K H v n ∧ n ≠ "tuple") ∨ ∃ a xs, v = .ref a ∧ SqT K H a xs ∧ xs.length ≤ 1000 ∧ (∀ x ∈ xs, ∃ n, Known K H x n) ∧ (xs.length ≠ 2 ∨ ∃ x ∈ xs, badDim x)
def sp_check_grid (K : PySem.W.Frag) (C : Ad) : Sp := fun vs H Q E => ∃ v, vs = [v] ∧
  ((∃ g h w, v = .ref g ∧ SqT K H g [.int ((h : Nat) : Int), .int ((w : Nat) : Int)] ∧ GOk h w ∧ RetV .non H Q) ∨ (BadG K H v ∧ RetE C.cBadGrid H E))

def t_check_grid (K : PySem.W.Frag) (C : Ad) (E : XK) : TS := (tIfS (tOr (tNot (tB (tCB (rIsi K) (tCons (tVar 0) (tCons (tC (.ty "tuple")) tNil))))) (tOr (tTest (tOp rNe (tCB (rLenS K) (tCons (tVar 0) tNil)) (tC (.int 2)))) (tNot (tB (tCB (rAll K) (tCons (tLc (iTup K (tVar 0)) (gName 1) tYes (tAndV (tCall (sp_is_whole K) [] E0 (tCons (tVar 1) tNil)) (tChain oLe oLe (tC (.int 1)) (tVar 1) (tC (.int 6)))) [1]) tNil)))))) (tRaise E (.ref C.cBadGrid)) tNext)
theorem known_grid {K : PySem.W.Frag} {H : Hp} {h w : Int} : ∀ x ∈ [V.int h, V.int w], ∃ n, Known K H x n := fun x hx => by
  rcases List.mem_cons.mp hx with e | hx
  · rw [e]; exact ⟨_, known_int h⟩
  · rcases List.mem_cons.mp hx with e | hx
    · rw [e]; exact ⟨_, known_int w⟩
    · cases hx
/-- a whole number within -/
def inRange (lo hi : Int) : V → Bool
  | .int n => decide (lo ≤ n) && decide (n ≤ hi)
  | _ => false
theorem isInt_of {v : V} (h : isInt v = true) : ∃ n, v = .int n := by
  cases v with
  | int n => exact ⟨n, rfl⟩
  | _ => cases h
theorem all_dims {K : PySem.W.Frag} {H : Hp} {g : Addr} {xs : List V} {N : List Str} (hN : N.length = 2) (hs : SqT K H g xs) (hl : xs.length ≤ 1000) (hk : ∀ x ∈ xs, ∃ n, Known K H x n) :
    Ev (tCB (rAll K) (tCons (tLc (iTup K (tVar 0)) (gName 1) tYes (tAndV (tCall (sp_is_whole K) [] E0 (tCons (tVar 1) tNil)) (tChain oLe oLe (tC (.int 1)) (tVar 1) (tC (.int 6)))) [1]) tNil)) [some (.ref g), none] H (.bl (xs.all (inRange 1 6))) := by
  have e : (((xs.filter fun _ => true).map fun x => V.bl (inRange 1 6 x))) = (xs.map (inRange 1 6)).map V.bl := by
    rw [filter_yes, List.map_map]
    rfl
  have w : EvL (tLc (iTup K (tVar 0)) (gName 1) tYes (tAndV (tCall (sp_is_whole K) [] E0 (tCons (tVar 1) tNil)) (tChain oLe oLe (tC (.int 1)) (tVar 1) (tC (.int 6)))) [1]) [some (.ref g), none] H ((xs.map (inRange 1 6)).map V.bl) := by
    rw [← e]
    refine el_lcT (fun _ => true) _ (est_of (ev_var rfl) hs) (by omega) (fun x => rfl) (fun x H1 e1 hx => et_yes) (fun x H1 e1 hx _ => ?_)
    obtain ⟨n, hn⟩ := hk x hx
    have r : inRange 1 6 x = (isInt x && inRange 1 6 x) := by cases x <;> rfl
    rw [r]
    refine ev_andV (ev_is_whole (ea_cons (ev_var rfl) ea_nil) (hn.mono e1)) (fun hi => ?_)
    obtain ⟨m, rfl⟩ := isInt_of hi
    exact ev_chain ev_c (ev_var rfl) rv_I0 (fun _ => ev_c) (fun _ => rv_I0)
  have z := ev_allS (K := K) (es_new (K := K) w)
  rw [List.all_map] at z
  exact z
theorem pure_check_grid {K : PySem.W.Frag} {C : Ad} {vs : List V} {H : Hp} {Q : VK} {E : XK} {D : Ends} (hD : D.nx = fun _ H' => Q .non H') (h : sp_check_grid K C vs H Q E) : t_check_grid K C E D (start ["grid", "one"] vs) H := by
  obtain ⟨v, rfl, h⟩ := h
  rcases h with ⟨g, h, w, rfl, hs, gk, q⟩ | ⟨hb, q⟩
  · have a := all_dims (N := ["grid", "one"]) rfl hs (by simp) known_grid
    refine s_when (et_or (et_not (et_B (ev_isiTuple (ev_var rfl) ⟨ty_tuple hs, by decide⟩))) (fun _ => et_or (et_test (ev_op (ev_lenT (est_of (ev_var rfl) hs)) ev_c (rv_ne rfl))) (fun _ => et_not (et_B a)))) (fun hb => ?_) (fun _ H1 e1 => ?_)
    · exfalso
      obtain ⟨g1, g2, g3, g4⟩ := gk
      have e : ([V.int (h : Int), V.int (w : Int)].all (inRange 1 6)) = true := by
        simp only [List.all_cons, List.all_nil, inRange, Bool.and_true, Bool.and_eq_true, decide_eq_true_eq]
        omega
      rw [e] at hb
      revert hb
      simp
    · rw [hD]
      exact q H1 e1
  · rcases hb with ⟨n, hk, hn⟩ | ⟨a, xs, rfl, hs, hl, hk, hb⟩
    · have e : (n == "tuple") = false := by simpa using hn
      refine s_when (b := true) (et_is (et_or (b := true) (et_not (et_B (ev_isiTuple (ev_var rfl) hk))) (fun z => ?_)) (by rw [e]; rfl)) (fun _ H1 e1 => q H1 e1) (fun z => nomatch z)
      rw [e] at z
      cases z
    · have a := all_dims (N := ["grid", "one"]) rfl hs hl hk
      refine s_when (et_or (et_not (et_B (ev_isiTuple (ev_var rfl) ⟨ty_tuple hs, by decide⟩))) (fun _ => et_or (et_test (ev_op (ev_lenT (est_of (ev_var rfl) hs)) ev_c (rv_ne rfl))) (fun _ => et_not (et_B a)))) (fun _ H1 e1 => q H1 e1) (fun z => ?_)
      exfalso
      rcases hb with hb | ⟨x, hx, hb⟩
      · have e : decide (V.int (xs.length : Int) = V.int 2) = false := decide_eq_false fun z => hb (by have := V.int.inj z; omega)
        rw [e] at z
        simp at z
      · have e : xs.all (inRange 1 6) = false := by
          rw [List.all_eq_false]
          refine ⟨x, hx, ?_⟩
          cases x with
          | int n =>
            have := hb n rfl
            simp only [inRange, Bool.and_eq_true, decide_eq_true_eq]
            exact this
          | _ => simp [inRange]
        rw [e] at z
        simp at z
theorem ev_check_grid {K : PySem.W.Frag} {C : Ad} {σ : L2.St} {H : Hp} {ta : TA} {E : XK} {g : Addr} {h w : Nat} (ha : EvA ta σ H [.ref g]) (hs : SqT K H g [.int (h : Int), .int (w : Int)]) (gk : GOk h w) : Ev (tCall (sp_check_grid K C) [] E ta) σ H .non := fun H1 e Q q =>
  ha H1 e _ fun H2 e2 => ⟨_, rfl, .inl ⟨g, h, w, rfl, ex_t (e.trans e2) hs, gk, fun H3 e3 => q H3 (e2.trans e3)⟩⟩

/-! ### check_cells -/
/-- a whole number from 0, below m -/
def inCells (m : Int) : V → Bool
  | .int n => decide (0 ≤ n) && decide (n < m)
  | _ => false
def BadC (K : PySem.W.Frag) (H : Hp) (m : Int) (v : V) : Prop := (∃ n, Known K H v n ∧ n ≠ "list") ∨ ∃ a xs ds, v = .ref a ∧ SqL K H a xs ∧ DpAll K H xs ds ∧ SeqAt.shaped (.list ds) = true ∧ xs.length ≤ 1000 ∧
  (xs = [] ∨ xs.all (inCells m) = false ∨ ∃ ns : List Int, xs = ns.map V.int ∧ ¬ Rising ns)
def sp_check_cells (K : PySem.W.Frag) (C : Ad) : Sp := fun vs H Q E => ∃ g h w v, vs = [.ref g, v] ∧ SqT K H g [.int ((h : Nat) : Int), .int ((w : Nat) : Int)] ∧ GOk h w ∧
  ((∃ c cs, v = .ref c ∧ SqL K H c (cs.map V.int) ∧ COk h w cs ∧ RetV .non H Q) ∨ (BadC K H ((h : Int) * w) v ∧ RetE C.cBadCells H E))
def t_check_cells (K : PySem.W.Frag) (C : Ad) (E : XK) : TS := (tSeq (tAsg (tOp oMul (tOp (rIxT K) (tVar 0) (tC (.int 0))) (tOp (rIxT K) (tVar 0) (tC (.int 1)))) (gName 2))
      (tSeq (tIfS (tOr (tNot (tB (tCB (rIsi K) (tCons (tVar 1) (tCons (tC (.ty "list")) tNil))))) (tOr (tTest (tOp (rEqD K) (tVar 1) (tLst tNil))) (tNot (tB (tCB (rAll K) (tCons (tLc (iList K (tVar 1)) (gName 3) tYes (tAndV (tCall (sp_is_whole K) [] E0 (tCons (tVar 3) tNil)) (tChain oLe oLt (tC (.int 0)) (tVar 3) (tVar 2))) [3]) tNil)))))) (tRaise E (.ref C.cBadCells)) tNext)
      (tIfS (tB (tCB (rAny K) (tCons (tLc (iZip K (tCons (tVar 1) (tCons (tSl (rSlL K) (tVar 1) (tPart (tC (.int 1))) tNoPart) tNil))) (gTup K 2 (gCons (gName 3) (gCons (gName 4) gNil))) tYes (tOp oGe (tVar 3) (tVar 4)) [3, 4]) tNil))) (tRaise E (.ref C.cBadCells)) tNext)))
theorem shaped_of_len {ds : List PyData} (h1 : PyData.canLayAll0 ds = true) (h2 : PyData.depthAll ds ≤ 63) : SeqAt.shaped (.list ds) = true := by
  have e1 : PyData.canLay0 (.list ds) = true := by
    rw [PyData.canLay0]
    exact h1
  have e2 : PyData.depth (.list ds) ≤ 64 := by
    rw [PyData.depth]
    omega
  unfold SeqAt.shaped
  rw [e1, decide_eq_true e2]
  rfl
theorem lay_ints : ∀ ns : List Int, PyData.canLayAll0 (ns.map PyData.int) = true
  | [] => rfl
  | n :: r => by simp [PyData.canLayAll0, PyData.canLay0, lay_ints r]
theorem depth_ints : ∀ ns : List Int, PyData.depthAll (ns.map PyData.int) ≤ 1
  | [] => by simp [PyData.depthAll]
  | n :: r => by
    have := depth_ints r
    simp only [List.map_cons, PyData.depthAll, PyData.depth]
    omega
theorem shaped_ints (ns : List Int) : SeqAt.shaped (dI ns) = true := shaped_of_len (lay_ints ns) (by have := depth_ints ns; omega)
theorem shaped_nil : SeqAt.shaped (.list []) = true := shaped_ints []
theorem ed_nil {K : PySem.W.Frag} {σ : L2.St} {H : Hp} : EvD K (tLst tNil) σ H (.list []) := fun H1 e Q q => el_lst (σ := σ) (H := H) ea_nil (by simp) H1 e Q fun p H2 _ e2 hp => q _ H2 e2 (.lst (sq_of hp) .nil)
theorem eqv_nil (ds : List PyData) : PyData.eqv (.list ds) (.list []) = decide (ds = []) := by
  cases ds <;> simp [PyData.eqv, PyData.eqvAll]
theorem dpAll_len {K : PySem.W.Frag} {H : Hp} : ∀ {xs : List V} {ds : List PyData}, DpAll K H xs ds → xs.length = ds.length
  | _, _, .nil => rfl
  | _, _, .cons _ h => by rw [List.length_cons, List.length_cons, dpAll_len h]
theorem dpAll_mem {K : PySem.W.Frag} {H : Hp} : ∀ {xs : List V} {ds : List PyData}, DpAll K H xs ds → ∀ x ∈ xs, ∃ d, Dp K H x d
  | _, _, .cons h hs, x, hx => by
    rcases List.mem_cons.mp hx with e | hx
    · rw [e]; exact ⟨_, h⟩
    · exact dpAll_mem hs x hx
theorem all_cells {K : PySem.W.Frag} {H : Hp} {a : Addr} {xs : List V} {m : Int} {y0 : Option V} (hs : SqL K H a xs) (hl : xs.length ≤ 1000) (hk : ∀ x ∈ xs, ∃ n, Known K H x n) :
    Ev (tCB (rAll K) (tCons (tLc (iList K (tVar 1)) (gName 3) tYes (tAndV (tCall (sp_is_whole K) [] E0 (tCons (tVar 3) tNil)) (tChain oLe oLt (tC (.int 0)) (tVar 3) (tVar 2))) [3]) tNil)) [y0, some (.ref a), some (.int m), none, none] H (.bl (xs.all (inCells m))) := by
  have e : (((xs.filter fun _ => true).map fun x => V.bl (inCells m x))) = (xs.map (inCells m)).map V.bl := by
    rw [filter_yes, List.map_map]
    rfl
  have w : EvL (tLc (iList K (tVar 1)) (gName 3) tYes (tAndV (tCall (sp_is_whole K) [] E0 (tCons (tVar 3) tNil)) (tChain oLe oLt (tC (.int 0)) (tVar 3) (tVar 2))) [3]) [y0, some (.ref a), some (.int m), none, none] H ((xs.map (inCells m)).map V.bl) := by
    rw [← e]
    refine el_lc (fun _ => true) _ (es_of (ev_var rfl) hs) (by omega) (fun x => rfl) (fun x H1 e1 hx => et_yes) (fun x H1 e1 hx _ => ?_)
    obtain ⟨n, hn⟩ := hk x hx
    have r : inCells m x = (isInt x && inCells m x) := by cases x <;> rfl
    rw [r]
    refine ev_andV (ev_is_whole (ea_cons (ev_var rfl) ea_nil) (hn.mono e1)) (fun hi => ?_)
    obtain ⟨k, rfl⟩ := isInt_of hi
    exact ev_chain ev_c (ev_var rfl) rv_I0 (fun _ => ev_var rfl) (fun _ => rv_I0)
  have z := ev_allS (K := K) (es_new (K := K) w)
  rw [List.all_map] at z
  exact z
theorem cut1 (xs : List V) : cutV xs (some 1) none = xs.drop 1 := by
  unfold cutV
  rw [show HT.sIx xs.length 0 (some 1) = min 1 xs.length from HT.sIx_nat xs.length 0 1, HT.sIx_none]
  cases xs with
  | nil => rfl
  | cons x r =>
    rw [show min 1 (x :: r).length = 1 by rw [List.length_cons]; omega]
    show (List.take ((x :: r).length - 1) r) = r
    rw [List.length_cons, Nat.add_sub_cancel]
    exact List.take_length
/-- neighbours that do not rise -/
def falls : List Int → Bool
  | x :: y :: r => decide (y ≤ x) || falls (y :: r)
  | _ => false
theorem falls_eq : ∀ ns : List Int, ((ns.zip (ns.drop 1)).map fun p => decide (p.2 ≤ p.1)).any id = falls ns
  | [] => rfl
  | [_] => rfl
  | x :: y :: r => by
    have ih := falls_eq (y :: r)
    simp only [List.drop_succ_cons, List.drop_zero] at ih ⊢
    rw [List.zip_cons_cons, List.map_cons, List.any_cons, ih]
    rfl
theorem falls_rising : ∀ ns : List Int, falls ns = false ↔ Rising ns
  | [] => ⟨fun _ => .nil, fun _ => rfl⟩
  | [x] => ⟨fun _ => List.pairwise_singleton _ x, fun _ => rfl⟩
  | x :: y :: r => by
    have ih := falls_rising (y :: r)
    unfold Rising at ih ⊢
    have e : falls (x :: y :: r) = (decide (y ≤ x) || falls (y :: r)) := rfl
    rw [e, Bool.or_eq_false_iff, ih, decide_eq_false_iff_not]
    constructor
    · rintro ⟨h1, h2⟩
      refine List.pairwise_cons.mpr ⟨fun z hz => ?_, h2⟩
      rcases List.mem_cons.mp hz with rfl | hz
      · omega
      · have := List.rel_of_pairwise_cons h2 hz
        omega
    · intro h
      obtain ⟨h1, h2⟩ := List.pairwise_cons.mp h
      exact ⟨by have := h1 y List.mem_cons_self; omega, h2⟩
theorem any_falls {K : PySem.W.Frag} {H : Hp} {a : Addr} {ns : List Int} {y0 y2 : Option V} (hs : SqL K H a (ns.map V.int)) (hl : ns.length ≤ 1000) :
    Ev (tCB (rAny K) (tCons (tLc (iZip K (tCons (tVar 1) (tCons (tSl (rSlL K) (tVar 1) (tPart (tC (.int 1))) tNoPart) tNil))) (gTup K 2 (gCons (gName 3) (gCons (gName 4) gNil))) tYes (tOp oGe (tVar 3) (tVar 4)) [3, 4]) tNil)) [y0, some (.ref a), y2, none, none] H (.bl (falls ns)) := by
  have s2 : EvL (tSl (rSlL K) (tVar 1) (tPart (tC (.int 1))) tNoPart) [y0, some (.ref a), y2, none, none] H ((ns.drop 1).map V.int) := by
    have := el_sl (K := K) (te := tVar 1) (σ := [y0, some (.ref a), y2, none, none]) (H := H) (ev_var (i := 1) rfl) (eo_some ev_c) eo_none hs (lo := some 1)
    rw [cut1, ← List.map_drop] at this
    exact this
  have w := el_lcZ (K := K) (t := tYes) (te := tOp oGe (tVar 3) (tVar 4)) (σ := [y0, some (.ref a), y2, none, none]) (H := H) (i := 3) (j := 4) (vs := [3, 4]) (fun _ => true) (fun p => match p with | (.int x, .int y) => V.bl (decide (y ≤ x)) | _ => .non)
    (es_of (ev_var (i := 1) rfl) hs) (es_new s2) (by rw [List.length_map]; omega) (fun x y => rfl) (fun _ _ _ _ => et_yes) (fun p H1 e1 hp _ => by
      obtain ⟨x, y⟩ := p
      have hz := List.of_mem_zip hp
      obtain ⟨m, _, rfl⟩ := List.mem_map.mp hz.1
      obtain ⟨k, _, rfl⟩ := List.mem_map.mp hz.2
      exact ev_op (x := .int m) (y := .int k) (ev_var rfl) (ev_var rfl) rv_I0)
  have e : ((((ns.map V.int).zip ((ns.drop 1).map V.int)).filter fun _ => true).map (fun p => match p with | (.int x, .int y) => V.bl (decide (y ≤ x)) | _ => .non)) = ((ns.zip (ns.drop 1)).map fun p => decide (p.2 ≤ p.1)).map V.bl := by
    rw [filter_yes, List.zip_map, List.map_map, List.map_map]
    rfl
  rw [e] at w
  have z := ev_anyS (K := K) (es_new (K := K) w)
  rw [falls_eq] at z
  exact z
theorem rising_len {m : Int} : ∀ (cs : List Int) (lo : Int), Rising cs → (∀ x ∈ cs, lo ≤ x ∧ x < m) → (cs.length : Int) ≤ max 0 (m - lo)
  | [], _, _, _ => by simp; omega
  | x :: r, lo, h, hb => by
    have h1 := (List.pairwise_cons.mp h).1
    have ih := rising_len r (x + 1) (List.pairwise_cons.mp h).2 (fun y hy => ⟨by have := h1 y hy; omega, (hb y (List.mem_cons_of_mem _ hy)).2⟩)
    have hx := hb x List.mem_cons_self
    rw [List.length_cons]
    omega
theorem cok_len {h w : Nat} {cs : List Int} (gk : GOk h w) (c : COk h w cs) : cs.length ≤ 36 := by
  have := rising_len cs 0 c.2.2 c.2.1
  have := hw_le gk
  omega
theorem pure_check_cells {K : PySem.W.Frag} {C : Ad} {vs : List V} {H : Hp} {Q : VK} {E : XK} {D : Ends} (hD : D.nx = fun _ H' => Q .non H') (h : sp_check_cells K C vs H Q E) : t_check_cells K C E D (start ["grid", "cells", "many", "one", "other"] vs) H := by
  obtain ⟨g, h, w, v, rfl, hg, gk, hv⟩ := h
  change t_check_cells K C E D [some (.ref g), some v, none, none, none] H
  have hwl := hw_le gk
  have gb := gk
  obtain ⟨g1, g2, g3, g4⟩ := gb
  refine q_asg (v := .int ((h : Int) * w)) (by walk_at "ev") fun H1 e1 => ?_
  rcases hv with ⟨c, cs, rfl, hc, ck, q⟩ | ⟨hb, q⟩
  · have cl := cok_len gk ck
    have hc1 := ex_l e1 hc
    have kn : ∀ x ∈ cs.map V.int, ∃ n, Known K H1 x n := fun x hx => by
      obtain ⟨m, _, rfl⟩ := List.mem_map.mp hx
      exact ⟨_, known_int m⟩
    have a := all_cells (K := K) (H := H1) (y0 := some (.ref g)) (m := (h : Int) * w) hc1 (by rw [List.length_map]; omega) kn
    have ea : (cs.map V.int).all (inCells ((h : Int) * w)) = true := by
      rw [List.all_map]
      refine List.all_eq_true.mpr fun x hx => ?_
      have := ck.2.1 x hx
      simp only [Function.comp, inCells, Bool.and_eq_true, decide_eq_true_eq]
      exact this
    rw [ea] at a
    have en : PyData.eqv (dI cs) (.list []) = false := by
      unfold dI
      rw [eqv_nil]
      simp [ck.1]
    refine q_when (b := false) (et_is (et_or (b := false) (et_not (et_B (ev_isiList (ev_var rfl) ⟨ty_list hc1, by decide⟩))) (fun _ => et_is (et_or (et_test (ev_eqD (ed_ints (es_of (ev_var rfl) hc1)) ed_nil (shaped_ints cs) shaped_nil)) (fun _ => et_not (et_B a))) (by rw [en]; rfl))) (by simp)) (fun z => nomatch z) (fun _ H2 e2 => ?_)
    have f := any_falls (K := K) (H := H2) (ns := cs) (y0 := some (.ref g)) (y2 := some (.int ((h : Int) * w))) (ex_l e2 hc1) (by omega)
    rw [(falls_rising cs).mpr ck.2.2] at f
    refine s_when (et_B f) (fun z => nomatch z) (fun _ H3 e3 => ?_)
    rw [hD]
    exact q H3 ((e1.trans e2).trans e3)
  · have q1 : ∀ H2, Ex H1 H2 → E (.ref C.cBadCells) none H2 := fun H2 e2 => q H2 (e1.trans e2)
    rcases hb with ⟨n, hk, hn⟩ | ⟨a, xs, ds, rfl, hs, hd, hsh, hl, hb⟩
    · have e : (n == "list") = false := by simpa using hn
      refine q_when (b := true) (et_is (et_or (b := true) (et_not (et_B (ev_isiList (ev_var rfl) (hk.mono e1)))) (fun z => ?_)) (by rw [e]; rfl)) (fun _ H2 e2 => q1 H2 e2) (fun z => nomatch z)
      rw [e] at z
      cases z
    · have hs1 := ex_l e1 hs
      have hd1 := DpAll.mono e1 hd
      have kn : ∀ x ∈ xs, ∃ n, Known K H1 x n := fun x hx => by
        obtain ⟨d, hd⟩ := dpAll_mem hd1 x hx
        exact known_dp hd
      have a1 := all_cells (K := K) (H := H1) (y0 := some (.ref g)) (m := (h : Int) * w) hs1 hl kn
      have t := et_or (et_not (et_B (ev_isiList (K := K) (σ := [some (.ref g), some (.ref a), some (.int ((h : Int) * w)), none, none]) (H := H1) (ta := tVar 1) (ev_var rfl) ⟨ty_list hs1, by decide⟩))) (fun _ => et_or (et_test (ev_eqD (ed_of (ev_var (i := 1) rfl) (.lst hs1 hd1)) ed_nil hsh shaped_nil)) (fun _ => et_not (et_B a1)))
      refine q_when t (fun _ H2 e2 => q1 H2 e2) (fun z H2 e2 => ?_)
      rcases hb with hb | hb | ⟨ns, rfl, hr⟩
      · exfalso
        subst hb
        have : ds = [] := by
          have := dpAll_len hd
          cases ds with
          | nil => rfl
          | cons _ _ => simp at this
        subst this
        simp [PyData.eqv, PyData.eqvAll] at z
      · rw [hb] at z
        simp at z
      · rw [List.length_map] at hl
        have f := any_falls (K := K) (H := H2) (ns := ns) (y0 := some (.ref g)) (y2 := some (.int ((h : Int) * w))) (ex_l e2 hs1) hl
        have fr : falls ns = true := by
          cases hf : falls ns with
          | true => rfl
          | false => exact absurd ((falls_rising ns).mp hf) hr
        rw [fr] at f
        exact s_when (et_B f) (fun _ H3 e3 => q1 H3 (e2.trans e3)) (fun z => nomatch z)
theorem ev_check_cells {K : PySem.W.Frag} {C : Ad} {σ : L2.St} {H : Hp} {ta : TA} {E : XK} {g c : Addr} {h w : Nat} {cs : List Int} (ha : EvA ta σ H [.ref g, .ref c]) (hs : SqT K H g [.int (h : Int), .int (w : Int)]) (gk : GOk h w) (hc : SqL K H c (cs.map V.int)) (ck : COk h w cs) : Ev (tCall (sp_check_cells K C) [] E ta) σ H .non := fun H1 e Q q =>
  ha H1 e _ fun H2 e2 => ⟨g, h, w, _, rfl, ex_t (e.trans e2) hs, gk, .inl ⟨c, cs, rfl, ex_l (e.trans e2) hc, ck, fun H3 e3 => q H3 (e2.trans e3)⟩⟩

/-! ### new lists of new lists -/
def NewLL (H1 : Hp) (v : V) (H2 : Hp) (xss : List (List V)) : Prop := ∃ p ps, v = .ref p ∧ H1 p = none ∧ H2 p = some (.lst (ps.map V.ref)) ∧ Paired (fun (q : Addr) xs => H1 q = none ∧ H2 q = some (.lst xs)) ps xss
def ints2 (nss : List (List Int)) : List (List V) := nss.map fun ns => ns.map V.int
def dII (nss : List (List Int)) : PyData := .list (nss.map dI)
def RetP (R : Hp → V → Hp → Prop) (H : Hp) (Q : VK) : Prop := ∀ v H2, Ex H H2 → R H v H2 → Q v H2
theorem NewLL.back {H0 H1 H2 : Hp} {v : V} {xss : List (List V)} (e : Ex H0 H1) (h : NewLL H1 v H2 xss) : NewLL H0 v H2 xss := by
  obtain ⟨p, ps, rfl, hp, h2, hr⟩ := h
  exact ⟨p, ps, rfl, fresh_back e hp, h2, Paired.mapP hr fun q xs z => ⟨fresh_back e z.1, z.2⟩⟩
theorem NewLL.on {H1 H2 H3 : Hp} {v : V} {xss : List (List V)} (e : Ex H2 H3) (h : NewLL H1 v H2 xss) : NewLL H1 v H3 xss := by
  obtain ⟨p, ps, rfl, hp, h2, hr⟩ := h
  exact ⟨p, ps, rfl, hp, e _ _ h2, Paired.mapP hr fun q xs z => ⟨z.1, e _ _ z.2⟩⟩
theorem dpAll_rows {K : PySem.W.Frag} {H1 H2 : Hp} : ∀ {ps : List Addr} {nss : List (List Int)}, Paired (fun (q : Addr) xs => H1 q = none ∧ H2 q = some (.lst xs)) ps (ints2 nss) → DpAll K H2 (ps.map V.ref) (nss.map dI)
  | [], [], .nil => .nil
  | p :: ps, ns :: nss, .cons h hs => .cons (dp_ints (sq_of h.2)) (dpAll_rows hs)
theorem NewLL.dp {K : PySem.W.Frag} {H1 H2 : Hp} {v : V} {nss : List (List Int)} (h : NewLL H1 v H2 (ints2 nss)) : Dp K H2 v (dII nss) := by
  obtain ⟨p, ps, rfl, hp, h2, hr⟩ := h
  exact .lst (sq_of h2) (dpAll_rows hr)
section
variable {K : PySem.W.Frag} {σ : L2.St} {H H' : Hp} {te : TE} {t : TT}
theorem paired_snoc {α β : Type} {F : α → β → Prop} : ∀ {l : List α} {m : List β} {a : α} {b : β}, Paired F l m → F a b → Paired F (l ++ [a]) (m ++ [b])
  | [], [], _, _, .nil, h => .cons h .nil
  | _ :: _, _ :: _, _, _, .cons g gs, h => .cons g (paired_snoc gs h)
/-- [e for i in range(n)], e a new list -/
theorem ep_lcRL {ta : TA} {j : Nat} {vs : List Nat} {n : Nat} (g : Nat → List V) (h : EvA ta σ H [.int (n : Int)]) (hn : n ≤ 40000) (hw : ∀ x, wipe ((wipe σ vs).set j (some x)) vs = wipe σ vs)
    (he : ∀ (i : Nat) H1, Ex H H1 → i < n → EvL te ((wipe σ vs).set j (some (.int (i : Int)))) H1 (g i)) :
    EvP (tLc (iRng1 ta) (gName j) tYes te vs) σ H (fun H1 v H2 => NewLL H1 v H2 ((List.range n).map g)) := fun H0 e Q q => h H0 e _ fun H1 e1 => ⟨(n : Int), rfl, by omega, by omega, fun Dl hD => by
  have e0 : ((n : Int)).toNat = n := Int.toNat_natCast n
  rw [e0]
  refine lc_range (lo := 0) (n := n) (fun i H' => H1 Dl = none ∧ Ex H1 H' ∧ i ≤ n ∧ ∃ ps, H' Dl = some (.lst (ps.map V.ref)) ∧ ps.length = i ∧ Paired (fun (q : Addr) xs => (H1 q = none ∧ q ≠ Dl) ∧ H' q = some (.lst xs)) ps ((List.range i).map g)) ⟨hD, Ex.new hD, Nat.zero_le _, [], upd_same, rfl, .nil⟩ (fun i H' hi p => ?_) (fun H' p => ?_)
  · obtain ⟨p1, p2, _, ps, p3, pl, p4⟩ := p
    have z0 : (0 : Int) + (i : Int) = (i : Int) := Int.zero_add _
    show wipe ((wipe σ vs).set j (some (.int ((0 : Int) + (i : Int))))) vs = wipe σ vs ∧ te ((wipe σ vs).set j (some (.int ((0 : Int) + (i : Int))))) H' _
    rw [z0]
    refine ⟨hw _, he i H1 (e.trans e1) hi H' p2 _ fun p H4 hp e4 h4 => ?_⟩
    have ne : p ≠ Dl := (ne_of_none p3 hp).symm
    refine ⟨_, e4 _ _ p3, sz_lt (by rw [List.length_map]; omega), p1, Ex.mut (p2.trans e4) p1, hi, ps ++ [p], ?_, ?_, ?_⟩
    · rw [upd_same, List.map_append]; rfl
    · rw [List.length_append, pl]; rfl
    · rw [List.range_succ, List.map_append]
      refine paired_snoc (Paired.mapP p4 fun q xs z => ⟨z.1, ?_⟩) ⟨⟨fresh_back p2 hp, ne⟩, ?_⟩
      · rw [upd_ne z.1.2]; exact e4 _ _ z.2
      · rw [upd_ne ne]; exact h4
  · obtain ⟨p1, p2, _, ps, p3, _, p4⟩ := p
    exact q _ H' (e1.trans p2) ⟨Dl, ps, rfl, fresh_back e1 p1, p3, Paired.mapP p4 fun q xs z => ⟨fresh_back e1 z.1.1, z.2⟩⟩⟩
theorem s_retP {R : Hp → V → Hp → Prop} {D : Ends} (h : EvP te σ H R) (k : ∀ v H1, Ex H H1 → R H v H1 → D.rt v H1) : tRet te D σ H := h H (Ex.refl H) _ k
end
/-! ### beside -/
def sp_beside (K : PySem.W.Frag) : Sp := fun vs H Q _ => ∃ g h w x, vs = [.ref g, .int x] ∧ SqT K H g [.int ((h : Nat) : Int), .int ((w : Nat) : Int)] ∧ GOk h w ∧ RetL ((beside h w x).map V.int) H Q
theorem el_beside {K : PySem.W.Frag} {σ : L2.St} {H : Hp} {ta : TA} {E : XK} {g : Addr} {h w : Nat} {x : Int} (ha : EvA ta σ H [.ref g, .int x]) (hs : SqT K H g [.int (h : Int), .int (w : Int)]) (gk : GOk h w) : EvL (tCall (sp_beside K) [] E ta) σ H ((beside h w x).map V.int) := fun H1 e Q q =>
  ha H1 e _ fun H2 e2 => ⟨g, h, w, x, rfl, ex_t (e.trans e2) hs, gk, fun p H3 hp e3 h3 => q p H3 (fresh_back e2 hp) (e2.trans e3) h3⟩
def t_beside (K : PySem.W.Frag) : TS := (tSeq (tAsg (tVar 0) (gTup K 2 (gCons (gName 2) (gCons (gName 3) gNil))))
      (tSeq (tAsg (tLst tNil) (gName 4))
      (tSeq (tIfS (tTest (tOp oGe (tVar 1) (tVar 3))) (tDrop (tBM K "list" rAppend (tVar 4) (tCons (tOp oSub (tVar 1) (tVar 3)) tNil))) tNext)
      (tSeq (tIfS (tTest (tOp oGt (tOp oMod (tVar 1) (tVar 3)) (tC (.int 0)))) (tDrop (tBM K "list" rAppend (tVar 4) (tCons (tOp oSub (tVar 1) (tC (.int 1))) tNil))) tNext)
      (tSeq (tIfS (tTest (tOp oLt (tOp oMod (tVar 1) (tVar 3)) (tOp oSub (tVar 3) (tC (.int 1))))) (tDrop (tBM K "list" rAppend (tVar 4) (tCons (tOp oAdd (tVar 1) (tC (.int 1))) tNil))) tNext)
      (tSeq (tIfS (tTest (tOp oLt (tVar 1) (tOp oMul (tVar 3) (tOp oSub (tVar 2) (tC (.int 1)))))) (tDrop (tBM K "list" rAppend (tVar 4) (tCons (tOp oAdd (tVar 1) (tVar 3)) tNil))) tNext)
      (tRet (tVar 4))))))))
theorem pure_beside {K : PySem.W.Frag} {vs : List V} {H : Hp} {Q : VK} {E : XK} {D : Ends} (hD : D.rt = Q) (h : sp_beside K vs H Q E) : t_beside K D (start ["grid", "cell", "high", "wide", "found"] vs) H := by
  obtain ⟨g, h, w, x, rfl, hs, gk, q⟩ := h
  subst hD
  obtain ⟨g1, g2, g3, g4⟩ := gk
  change t_beside K D [some (.ref g), some (.int x), none, none, none] H
  refine q_unp (i := 2) (j := 3) (est_of (ev_var rfl) hs) fun H1 e1 => ?_
  refine q_asgL (i := 4) (el_lst ea_nil (by simp)) fun p H2 hp e2 h2 => ?_
  refine q_ifApp (v := .int (x - w)) (by walk_at "et") h2 (ev_var rfl) (fun _ => by walk_at "ev") (by simp) fun H3 k3 h3 => ?_
  refine q_ifApp (v := .int (x - 1)) (by walk_at "et") h3 (ev_var rfl) (fun _ => by walk_at "ev") (by simp only [List.length_append]; split <;> simp) fun H4 k4 h4 => ?_
  refine q_ifApp (v := .int (x + 1)) (by walk_at "et") h4 (ev_var rfl) (fun _ => by walk_at "ev") (by simp only [List.length_append]; split <;> split <;> simp) fun H5 k5 h5 => ?_
  refine q_ifApp (v := .int (x + w)) (by walk_at "et") h5 (ev_var rfl) (fun _ => by walk_at "ev") (by simp only [List.length_append]; split <;> split <;> split <;> simp) fun H6 k6 h6 => ?_
  refine s_ret (ev_var rfl) fun H7 e7 => q p H7 (fresh_back e1 hp) (fun c o ho => ?_) ?_
  · have ne : c ≠ p := ne_of_none (e1 _ _ ho) hp
    exact e7 _ _ (k6 c o ne (k5 c o ne (k4 c o ne (k3 c o ne (e2 _ _ (e1 _ _ ho))))))
  · rw [e7 _ _ h6]
    congr 2
    unfold beside besideA besideB besideC besideD
    simp only [List.map_append, decide_eq_true_eq, List.nil_append]
    congr 1
    · congr 1
      · congr 1
        · split <;> rfl
        · split <;> rfl
      · split <;> rfl
    · split <;> rfl
/-! ### sides_of -/
def sp_sides_of (K : PySem.W.Frag) : Sp := fun vs H Q _ => ∃ g c h w x cs, vs = [.ref g, .ref c, .int x] ∧ SqT K H g [.int ((h : Nat) : Int), .int ((w : Nat) : Int)] ∧ GOk h w ∧ SqL K H c ((cs : List Int).map V.int) ∧ RetV (.int (sidesOf h w cs x)) H Q
theorem ev_sides_of {K : PySem.W.Frag} {σ : L2.St} {H : Hp} {ta : TA} {E : XK} {g c : Addr} {h w : Nat} {x : Int} {cs : List Int} (ha : EvA ta σ H [.ref g, .ref c, .int x]) (hs : SqT K H g [.int (h : Int), .int (w : Int)]) (gk : GOk h w) (hc : SqL K H c (cs.map V.int)) : Ev (tCall (sp_sides_of K) [] E ta) σ H (.int (sidesOf h w cs x)) := fun H1 e Q q =>
  ha H1 e _ fun H2 e2 => ⟨g, c, h, w, x, cs, rfl, ex_t (e.trans e2) hs, gk, ex_l (e.trans e2) hc, fun H3 e3 => q H3 (e2.trans e3)⟩
def t_sides_of (K : PySem.W.Frag) : TS := (tSeq (tAsg (tCB (rLenS K) (tCons (tLc (iList K (tCall (sp_beside K) [] E0 (tCons (tVar 0) (tCons (tVar 2) tNil)))) (gName 4) (tTest (tOp (rIn K false) (tVar 4) (tVar 1))) (tVar 4) [4]) tNil)) (gName 3))
      (tRet (tIf (tTest (tOp (rIn K false) (tVar 2) (tVar 1))) (tOp oSub (tC (.int 4)) (tVar 3)) (tVar 3))))
theorem pure_sides_of {K : PySem.W.Frag} {vs : List V} {H : Hp} {Q : VK} {E : XK} {D : Ends} (hD : D.rt = Q) (h : sp_sides_of K vs H Q E) : t_sides_of K D (start ["grid", "cells", "cell", "near", "one"] vs) H := by
  obtain ⟨g, c, h, w, x, cs, rfl, hs, gk, hc, q⟩ := h
  subst hD
  change t_sides_of K D [some (.ref g), some (.ref c), some (.int x), none, none] H
  have b := el_beside (E := E0) (K := K) (σ := [some (.ref g), some (.ref c), some (.int x), none, none]) (ta := tCons (tVar 0) (tCons (tVar 2) tNil)) (ea_cons (ev_var rfl) (ea_cons (ev_var rfl) ea_nil)) hs gk
  have l := el_lcI (K := K) (t := tTest (tOp (rIn K false) (tVar 4) (tVar 1))) (te := tVar 4) (j := 4) (vs := [4]) (fun o => decide (o ∈ cs)) V.int (es_new b) (by have := beside_len h w x; omega) (fun x => rfl)
    (fun n H1 e1 hn => et_test (ev_isIn (ev_var rfl) (es_of (ev_var rfl) (ex_l e1 hc)))) (fun n H1 e1 hn _ => ev_var rfl)
  refine q_asg (ev_lenN l) fun H1 e1 => ?_
  rw [List.length_map]
  have hc1 := ex_l e1 hc
  refine s_ret (v := .int (sidesOf h w cs x)) (ev_if (b := decide (x ∈ cs)) (by walk_at "et") (fun hb => ?_) (fun hb => ?_)) fun H2 e2 => q H2 (e1.trans e2)
  · have : sidesOf h w cs x = 4 - (near h w cs x : Int) := if_pos (of_decide_eq_true hb)
    rw [this]
    exact ev_op ev_c (ev_var rfl) rv_I0
  · have : sidesOf h w cs x = (near h w cs x : Int) := if_neg (of_decide_eq_false hb)
    rw [this]
    exact ev_var rfl
/-! ### numbers_of -/
def sp_numbers_of (K : PySem.W.Frag) : Sp := fun vs H Q _ => ∃ g c h w cs, vs = [.ref g, .ref c] ∧ SqT K H g [.int ((h : Nat) : Int), .int ((w : Nat) : Int)] ∧ GOk h w ∧ SqL K H c ((cs : List Int).map V.int) ∧ RetP (fun H1 v H2 => NewLL H1 v H2 (ints2 (numbersOf h w cs))) H Q
theorem ep_numbers_of {K : PySem.W.Frag} {σ : L2.St} {H : Hp} {ta : TA} {E : XK} {g c : Addr} {h w : Nat} {cs : List Int} (ha : EvA ta σ H [.ref g, .ref c]) (hs : SqT K H g [.int (h : Int), .int (w : Int)]) (gk : GOk h w) (hc : SqL K H c (cs.map V.int)) :
    EvP (tCall (sp_numbers_of K) [] E ta) σ H (fun H1 v H2 => NewLL H1 v H2 (ints2 (numbersOf h w cs))) := fun H1 e Q q =>
  ha H1 e _ fun H2 e2 => ⟨g, c, h, w, cs, rfl, ex_t (e.trans e2) hs, gk, ex_l (e.trans e2) hc, fun v H3 e3 z => q v H3 (e2.trans e3) (z.back e2)⟩
def t_numbers_of (K : PySem.W.Frag) : TS := (tSeq (tAsg (tVar 0) (gTup K 2 (gCons (gName 2) (gCons (gName 3) gNil))))
      (tRet (tLc (iRng1 (tCons (tVar 2) tNil)) (gName 4) tYes (tLc (iRng1 (tCons (tVar 3) tNil)) (gName 5) tYes (tCall (sp_sides_of K) [] E0 (tCons (tVar 0) (tCons (tVar 1) (tCons (tOp oAdd (tOp oMul (tVar 4) (tVar 3)) (tVar 5)) tNil)))) [5]) [4])))
theorem pure_numbers_of {K : PySem.W.Frag} {vs : List V} {H : Hp} {Q : VK} {E : XK} {D : Ends} (hD : D.rt = Q) (h : sp_numbers_of K vs H Q E) : t_numbers_of K D (start ["grid", "cells", "high", "wide", "row", "at"] vs) H := by
  obtain ⟨g, c, h, w, cs, rfl, hs, gk, hc, q⟩ := h
  subst hD
  change t_numbers_of K D [some (.ref g), some (.ref c), none, none, none, none] H
  have gb := gk
  obtain ⟨g1, g2, g3, g4⟩ := gb
  refine q_unp (i := 2) (j := 3) (est_of (ev_var rfl) hs) fun H1 e1 => ?_
  have k := ep_lcRL (σ := [some (.ref g), some (.ref c), some (.int (h : Int)), some (.int (w : Int)), none, none]) (H := H1) (j := 4) (vs := [4]) (n := h) (ta := tCons (tVar 2) tNil)
    (te := tLc (iRng1 (tCons (tVar 3) tNil)) (gName 5) tYes (tCall (sp_sides_of K) [] E0 (tCons (tVar 0) (tCons (tVar 1) (tCons (tOp oAdd (tOp oMul (tVar 4) (tVar 3)) (tVar 5)) tNil)))) [5])
    (fun i => ((List.range w).map fun (a : Nat) => sidesOf h w cs ((i : Int) * w + (a : Int))).map V.int) (ea_cons (ev_var rfl) ea_nil) (by omega) (fun x => rfl) (fun i H2 e2 hi => by
      have l := el_lcR (σ := [some (.ref g), some (.ref c), some (.int (h : Int)), some (.int (w : Int)), some (.int (i : Int)), none]) (H := H2) (t := tYes) (te := tCall (sp_sides_of K) [] E0 (tCons (tVar 0) (tCons (tVar 1) (tCons (tOp oAdd (tOp oMul (tVar 4) (tVar 3)) (tVar 5)) tNil)))) (j := 5) (vs := [5]) (n := w) (ta := tCons (tVar 3) tNil)
        (fun _ => true) (fun a => V.int (sidesOf h w cs ((i : Int) * w + (a : Int)))) (ea_cons (ev_var rfl) ea_nil) (by omega) (fun x => rfl) (fun _ _ _ _ => et_yes) (fun a H3 e3 ha _ =>
          ev_sides_of (ea_cons (ev_var rfl) (ea_cons (ev_var rfl) (ea_cons (by walk_at "ev") ea_nil))) (ex_t ((e1.trans e2).trans e3) hs) gk (ex_l ((e1.trans e2).trans e3) hc))
      rw [filter_yes] at l
      rw [List.map_map]
      exact l)
  refine s_retP k fun v H2 e2 z => q v H2 (e1.trans e2) (z.back e1 |> fun z => ?_)
  unfold ints2 numbersOf
  rw [List.map_map]
  exact z
/-! ### numbers -/
def sp_numbers (K : PySem.W.Frag) (C : Ad) : Sp := fun vs H Q E => ∃ v u, vs = [v, u] ∧
  ((BadG K H v ∧ RetE C.cBadGrid H E) ∨
   (∃ g h w, v = .ref g ∧ SqT K H g [.int ((h : Nat) : Int), .int ((w : Nat) : Int)] ∧ GOk h w ∧ ((BadC K H ((h : Int) * w) u ∧ RetE C.cBadCells H E) ∨
     ∃ c cs, u = .ref c ∧ SqL K H c (cs.map V.int) ∧ COk h w cs ∧ RetP (fun H1 v H2 => NewLL H1 v H2 (ints2 (numbersOf h w cs))) H Q)))
theorem ep_numbers {K : PySem.W.Frag} {C : Ad} {σ : L2.St} {H : Hp} {ta : TA} {E : XK} {g c : Addr} {h w : Nat} {cs : List Int} (ha : EvA ta σ H [.ref g, .ref c]) (hs : SqT K H g [.int (h : Int), .int (w : Int)]) (gk : GOk h w) (hc : SqL K H c (cs.map V.int)) (ck : COk h w cs) :
    EvP (tCall (sp_numbers K C) [] E ta) σ H (fun H1 v H2 => NewLL H1 v H2 (ints2 (numbersOf h w cs))) := fun H1 e Q q =>
  ha H1 e _ fun H2 e2 => ⟨_, _, rfl, .inr ⟨g, h, w, rfl, ex_t (e.trans e2) hs, gk, .inr ⟨c, cs, rfl, ex_l (e.trans e2) hc, ck, fun v H3 e3 z => q v H3 (e2.trans e3) (z.back e2)⟩⟩⟩
def t_numbers (K : PySem.W.Frag) (C : Ad) (E : XK) : TS := (tSeq (tDrop (tCall (sp_check_grid K C) [] E (tCons (tVar 0) tNil)))
      (tSeq (tDrop (tCall (sp_check_cells K C) [] E (tCons (tVar 0) (tCons (tVar 1) tNil))))
      (tRet (tCall (sp_numbers_of K) [] E0 (tCons (tVar 0) (tCons (tVar 1) tNil))))))
theorem pure_numbers {K : PySem.W.Frag} {C : Ad} {vs : List V} {H : Hp} {Q : VK} {E : XK} {D : Ends} (hD : D.rt = Q) (h : sp_numbers K C vs H Q E) : t_numbers K C E D (start ["grid", "cells"] vs) H := by
  obtain ⟨v, u, rfl, h⟩ := h
  subst hD
  change t_numbers K C E D [some v, some u] H
  rcases h with ⟨hb, q⟩ | ⟨g, h, w, rfl, hs, gk, h⟩
  · exact ⟨v, rfl, v, rfl, .inr ⟨hb, q⟩⟩
  · refine q_drop (ev_check_grid (ea_cons (ev_var rfl) ea_nil) hs gk) fun H1 e1 => ?_
    rcases h with ⟨hb, q⟩ | ⟨c, cs, rfl, hc, ck, q⟩
    · refine ⟨_, rfl, u, rfl, g, h, w, u, rfl, ex_t e1 hs, gk, .inr ⟨?_, fun H2 e2 => q H2 (e1.trans e2)⟩⟩
      rcases hb with ⟨n, hk, hn⟩ | ⟨a, xs, ds, rfl, h1, h2, h3⟩
      · exact .inl ⟨n, hk.mono e1, hn⟩
      · exact .inr ⟨a, xs, ds, rfl, ex_l e1 h1, DpAll.mono e1 h2, h3⟩
    · refine q_drop (ev_check_cells (ea_cons (ev_var rfl) (ea_cons (ev_var rfl) ea_nil)) (ex_t e1 hs) gk (ex_l e1 hc) ck) fun H2 e2 => ?_
      refine s_retP (ep_numbers_of (ea_cons (ev_var rfl) (ea_cons (ev_var rfl) ea_nil)) (ex_t (e1.trans e2) hs) gk (ex_l (e1.trans e2) hc)) fun v H3 e3 z => q v H3 ((e1.trans e2).trans e3) (z.back (e1.trans e2))

/-! ### spread -/
def sp_spread (K : PySem.W.Frag) : Sp := fun vs H Q _ => ∃ g c h w x cs, vs = [.ref g, .int x, .ref c] ∧ SqT K H g [.int ((h : Nat) : Int), .int ((w : Nat) : Int)] ∧ GOk h w ∧ SqL K H c ((cs : List Int).map V.int) ∧ cs.length ≤ 1000 ∧ RetL ((spread h w x cs).map V.int) H Q
theorem el_spread {K : PySem.W.Frag} {σ : L2.St} {H : Hp} {ta : TA} {E : XK} {g c : Addr} {h w : Nat} {x : Int} {cs : List Int} (ha : EvA ta σ H [.ref g, .int x, .ref c]) (hs : SqT K H g [.int (h : Int), .int (w : Int)]) (gk : GOk h w) (hc : SqL K H c (cs.map V.int)) (hl : cs.length ≤ 1000) : EvL (tCall (sp_spread K) [] E ta) σ H ((spread h w x cs).map V.int) := fun H1 e Q q =>
  ha H1 e _ fun H2 e2 => ⟨g, c, h, w, x, cs, rfl, ex_t (e.trans e2) hs, gk, ex_l (e.trans e2) hc, hl, fun p H3 hp e3 h3 => q p H3 (fresh_back e2 hp) (e2.trans e3) h3⟩
def t_spread (K : PySem.W.Frag) : TS := (tSeq (tAsg (tTup (tCons (tLst (tCons (tVar 1) tNil)) (tCons (tC (.int 0)) tNil))) (gTup K 2 (gCons (gName 3) (gCons (gName 4) gNil))))
      (tSeq (tWhile (tTest (tOp oLt (tVar 4) (tCB (rLenS K) (tCons (tVar 3) tNil)))) (tSeq (tDrop (tBM K "list" rExtend (tVar 3) (tCons (tLc (iList K (tCall (sp_beside K) [] E0 (tCons (tVar 0) (tCons (tOp (rIxL K) (tVar 3) (tVar 4)) tNil)))) (gName 5) (tAnd (tTest (tOp (rIn K false) (tVar 5) (tVar 2))) (tTest (tOp (rIn K true) (tVar 5) (tVar 3)))) (tVar 5) [5]) tNil)))
      (tAug 4 (tC (.int 1)) (ipI fun i j => i + j))))
      (tRet (tVar 3))))
theorem pure_spread {K : PySem.W.Frag} {vs : List V} {H : Hp} {Q : VK} {E : XK} {D : Ends} (hD : D.rt = Q) (h : sp_spread K vs H Q E) : t_spread K D (start ["grid", "first", "some", "found", "at", "one"] vs) H := by
  obtain ⟨g, c, h, w, x, cs, rfl, hs, gk, hc, hl, q⟩ := h
  subst hD
  change t_spread K D [some (.ref g), some (.int x), some (.ref c), none, none, none] H
  refine q_tupLV (i := 3) (j := 4) (xs := [x].map V.int) (y := .int 0) (el_lst (ea_cons (ev_var rfl) ea_nil) (by simp)) ev_c fun p H1 hp e1 h1 => ?_
  refine q_while (fun m σ' H' => ∃ (f : List Int) (a : Nat), σ' = [some (.ref g), some (.int x), some (.ref c), some (.ref p), some (.int (a : Int)), none] ∧ Ex H H' ∧ H' p = some (.lst (f.map V.int)) ∧ f.Nodup ∧ (∀ o ∈ f, o ∈ x :: cs) ∧ m + a = cs.length + 2 ∧ spreadGo h w cs m f a = spread h w x cs)
    (cs.length + 2) ⟨[x], 0, rfl, e1, h1, by simp, by simp, by omega, rfl⟩ fun m σ' H' hW => ?_
  obtain ⟨f, a, rfl, e2, h2, fn, fs, hm, hg⟩ := hW
  have fl : f.length ≤ cs.length + 1 := nodup_sub (m := x :: cs) fn fs
  have lm : (f.map V.int).length = f.length := List.length_map ..
  refine ⟨decide ((a : Int) < (f.length : Int)), et_test (ev_op (x := .int (a : Int)) (y := .int (f.length : Int)) (ev_var rfl) (ev_is (ev_lenS (K := K) (es_of (ev_var rfl) (sq_of h2))) (by rw [lm])) rv_I0), fun hb H3 e3 => ?_, fun hb H3 e3 => ?_⟩
  · have ha : a < f.length := by have := of_decide_eq_true hb; omega
    cases m with
    | zero => omega
    | succ m =>
      have hfa : f[a]? = some f[a] := List.getElem?_eq_getElem ha
      unfold spreadGo at hg
      rw [hfa] at hg
      dsimp only at hg
      have st := spread_step (h := h) (w := w) gk.2.2.1 (x := f[a]) fn fs
      have gl := nodup_sub (m := x :: cs) st.1 st.2
      refine ⟨fun σ2 H2 => ∃ (f : List Int) (a : Nat), σ2 = [some (.ref g), some (.int x), some (.ref c), some (.ref p), some (.int (a : Int)), none] ∧ Ex H H2 ∧ H2 p = some (.lst (f.map V.int)) ∧ f.Nodup ∧ (∀ o ∈ f, o ∈ x :: cs) ∧ m + a = cs.length + 2 ∧ spreadGo h w cs m f a = spread h w x cs, fun σ2 H2 z => ⟨m, by omega, z⟩, ?_⟩
      have h3 := e3 _ _ h2
      have hs3 := ex_t (e2.trans e3) hs
      have hc3 := ex_l (e2.trans e3) hc
      have it : Ev (tOp (rIxL K) (tVar 3) (tVar 4)) [some (.ref g), some (.int x), some (.ref c), some (.ref p), some (.int (a : Int)), none] H3 (.int f[a]) := by
        refine ev_ixS (i := (a : Int)) (es_of (ev_var rfl) (sq_of h3)) (ev_var rfl) (atI_nat ?_)
        rw [List.getElem?_map, hfa]
        rfl
      have b := el_beside (E := E0) (K := K) (ta := tCons (tVar 0) (tCons (tOp (rIxL K) (tVar 3) (tVar 4)) tNil)) (ea_cons (ev_var rfl) (ea_cons it ea_nil)) hs3 gk
      have l := el_lcI (K := K) (t := tAnd (tTest (tOp (rIn K false) (tVar 5) (tVar 2))) (tTest (tOp (rIn K true) (tVar 5) (tVar 3)))) (te := tVar 5) (j := 5) (vs := [5]) (fun o => decide (o ∈ cs) && !decide (o ∈ f)) V.int (es_new b) (by have := beside_len h w f[a]; omega) (fun x => rfl)
        (fun n H4 e4 hn => et_and (et_test (ev_isIn (ev_var rfl) (es_of (ev_var rfl) (ex_l e4 hc3)))) (fun _ => et_test (ev_notIn (ev_var rfl) (es_of (ev_var rfl) (sq_of (e4 _ _ h3)))))) (fun n H4 e4 hn _ => ev_var rfl)
      refine q_extL (K := K) h3 (ev_var rfl) l (by rw [lm, List.length_map]; rw [List.length_append] at gl; simp only [List.length_cons] at gl; omega) fun H4 e4 => ?_
      refine s_aug (a := (a : Int)) (b := 1) rfl ev_c fun H5 e5 => ⟨_, a + 1, ?_, ?_, e5 _ _ upd_same |>.trans ?_, st.1, st.2, by omega, hg⟩
      · show [some (V.ref g), some (V.int x), some (V.ref c), some (V.ref p), some (V.int ((a : Int) + 1)), none] = _
        rfl
      · exact (Ex.mut ((e2.trans e3).trans e4) hp).trans e5
      · rw [List.map_append]
  · have ha : ¬ a < f.length := by have := of_decide_eq_false hb; omega
    have e : spread h w x cs = f := by
      rw [← hg]
      cases m with
      | zero => rfl
      | succ m =>
        unfold spreadGo
        rw [List.getElem?_eq_none (by omega)]
    refine s_ret (ev_var rfl) fun H4 e4 => q p H4 hp ((e2.trans e3).trans e4) ?_
    rw [e]
    exact e4 _ _ (e3 _ _ h2)
/-! ### is_inner -/
def sp_is_inner (K : PySem.W.Frag) : Sp := fun vs H Q _ => ∃ g c h w x cs, vs = [.ref g, .ref c, .int x] ∧ SqT K H g [.int ((h : Nat) : Int), .int ((w : Nat) : Int)] ∧ GOk h w ∧ SqL K H c ((cs : List Int).map V.int) ∧ RetV (.bl (isInner h w cs x)) H Q
theorem ev_is_inner {K : PySem.W.Frag} {σ : L2.St} {H : Hp} {ta : TA} {E : XK} {g c : Addr} {h w : Nat} {x : Int} {cs : List Int} (ha : EvA ta σ H [.ref g, .ref c, .int x]) (hs : SqT K H g [.int (h : Int), .int (w : Int)]) (gk : GOk h w) (hc : SqL K H c (cs.map V.int)) : Ev (tCall (sp_is_inner K) [] E ta) σ H (.bl (isInner h w cs x)) := fun H1 e Q q =>
  ha H1 e _ fun H2 e2 => ⟨g, c, h, w, x, cs, rfl, ex_t (e.trans e2) hs, gk, ex_l (e.trans e2) hc, fun H3 e3 => q H3 (e2.trans e3)⟩
def t_is_inner (K : PySem.W.Frag) : TS := (tSeq (tAsg (tVar 0) (gTup K 2 (gCons (gName 3) (gCons (gName 4) gNil))))
      (tSeq (tAsg (tLc (iRng1 (tCons (tOp oMul (tVar 3) (tVar 4)) tNil)) (gName 6) (tTest (tOp (rIn K true) (tVar 6) (tVar 1))) (tVar 6) [6]) (gName 5))
      (tSeq (tFor (iList K (tCall (sp_spread K) [] E0 (tCons (tVar 0) (tCons (tVar 2) (tCons (tVar 5) tNil))))) (gName 6) (tIfS (tOr (tTest (tOp oLt (tVar 6) (tVar 4))) (tOr (tTest (tOp oGe (tVar 6) (tOp oMul (tVar 4) (tOp oSub (tVar 3) (tC (.int 1)))))) (tTest (tOp (rIn K false) (tOp oMod (tVar 6) (tVar 4)) (tTup (tCons (tC (.int 0)) (tCons (tOp oSub (tVar 4) (tC (.int 1))) tNil))))))) (tRet (tC (.bl false))) tNext))
      (tRet (tC (.bl true))))))
theorem pure_is_inner {K : PySem.W.Frag} {vs : List V} {H : Hp} {Q : VK} {E : XK} {D : Ends} (hD : D.rt = Q) (h : sp_is_inner K vs H Q E) : t_is_inner K D (start ["grid", "cells", "cell", "high", "wide", "rest", "one"] vs) H := by
  obtain ⟨g, c, h, w, x, cs, rfl, hs, gk, hc, q⟩ := h
  subst hD
  change t_is_inner K D [some (.ref g), some (.ref c), some (.int x), none, none, none, none] H
  have gb := gk
  obtain ⟨g1, g2, g3, g4⟩ := gb
  have hwl := hw_le gk
  have cast : ((h * w : Nat) : Int) = (h : Int) * w := Int.natCast_mul h w
  refine q_unp (i := 3) (j := 4) (est_of (ev_var rfl) hs) fun H1 e1 => ?_
  have hc1 := ex_l e1 hc
  have hs1 := ex_t e1 hs
  have l := el_lcR (σ := [some (.ref g), some (.ref c), some (.int x), some (.int (h : Int)), some (.int (w : Int)), none, none]) (H := H1) (t := tTest (tOp (rIn K true) (tVar 6) (tVar 1))) (te := tVar 6) (j := 6) (vs := [6]) (n := h * w) (ta := tCons (tOp oMul (tVar 3) (tVar 4)) tNil)
    (fun i => !decide ((i : Int) ∈ cs)) (fun i => V.int (i : Int)) (ea_cons (by rw [cast]; walk_at "ev") ea_nil) (by omega) (fun x => rfl) (fun i H2 e2 hi => et_test (ev_notIn (ev_var rfl) (es_of (ev_var rfl) (ex_l e2 hc1)))) (fun i H2 e2 hi _ => ev_var rfl)
  have le : (((List.range (h * w)).filter fun (i : Nat) => !decide ((i : Int) ∈ cs)).map fun (i : Nat) => V.int (i : Int)) = (restOf h w cs).map V.int := by
    unfold restOf
    rw [List.map_map]
    rfl
  rw [le] at l
  refine q_asgL (i := 5) l fun r H2 hr e2 h2 => ?_
  have rl := restOf_len h w cs
  have hs2 := ex_t e2 hs1
  have sp := el_spread (E := E0) (K := K) (σ := [some (.ref g), some (.ref c), some (.int x), some (.int (h : Int)), some (.int (w : Int)), some (.ref r), none]) (H := H2) (ta := tCons (tVar 0) (tCons (tVar 2) (tCons (tVar 5) tNil))) (ea_cons (ev_var rfl) (ea_cons (ev_var rfl) (ea_cons (ev_var rfl) ea_nil))) hs2 gk (sq_of h2) (by omega)
  have isI : isInner h w cs x = (spread h w x (restOf h w cs)).all fun o => !onEdge h w o := rfl
  generalize spread h w x (restOf h w cs) = fs at *
  refine q_forNLn (K := K) (j := 6) sp (fun p n σ' H' => ∃ y6, σ' = [some (.ref g), some (.ref c), some (.int x), some (.int (h : Int)), some (.int (w : Int)), some (.ref r), y6] ∧ Ex H2 H' ∧ H' p = some (.lst (fs.map V.int)) ∧ ∀ o ∈ fs.take n, onEdge h w o = false)
    (fun p H3 hp e3 h3 => ⟨_, rfl, e3, h3, by simp⟩) (fun p n σ' H' _ hP => by obtain ⟨_, _, _, h3, _⟩ := hP; exact sq_of h3) (fun p n v σ' H3 hv hP => ?_) (fun p σ' H3 hP => ?_)
  · obtain ⟨y6, rfl, e3, h3, hk⟩ := hP
    rw [List.getElem?_map] at hv
    obtain ⟨o, ho, rfl⟩ := Option.map_eq_some_iff.mp hv
    have hs3 := ex_t e3 hs2
    refine s_when (b := onEdge h w o) ?_ (fun hb H4 e4 => ?_) (fun hb H4 e4 => ⟨_, rfl, e3.trans e4, e4 _ _ h3, fun o' ho' => ?_⟩)
    · refine et_or (et_test (ev_op (x := .int o) (y := .int (w : Int)) (ev_var rfl) (ev_var rfl) rv_I0)) (fun _ => et_or (et_test (ev_op (x := .int o) (y := .int ((w : Int) * ((h : Int) - 1))) (ev_var rfl) (by walk_at "ev") rv_I0)) (fun _ => et_test ?_))
      exact ev_inT2 (ev_op (x := .int o) (y := .int (w : Int)) (ev_var rfl) (ev_var rfl) (rv_I (by show (0 : Int) < _; omega))) (est_new (eu_tup (by walk_at "ea") (by simp)))
    · refine s_ret ev_c fun H5 e5 => ?_
      have : isInner h w cs x = false := by
        rw [isI, List.all_eq_false]
        exact ⟨o, List.mem_of_getElem? ho, by simp [hb]⟩
      rw [this] at q
      exact q H5 ((((e1.trans e2).trans e3).trans e4).trans e5)
    · rw [take_snoc ho] at ho'
      rcases List.mem_append.mp ho' with z | z
      · exact hk o' z
      · have : o' = o := by simpa using z
        rw [this]
        exact hb
  · obtain ⟨y6, rfl, e3, h3, hk⟩ := hP
    rw [List.length_map, List.take_length] at hk
    refine s_ret ev_c fun H4 e4 => ?_
    have : isInner h w cs x = true := by
      rw [isI, List.all_eq_true]
      intro o ho
      simp [hk o ho]
    rw [this] at q
    exact q H4 (((e1.trans e2).trans e3).trans e4)
/-! ### first_inner -/
def optV : Option Nat → V
  | none => .non
  | some n => .int (n : Int)
def sp_first_inner (K : PySem.W.Frag) : Sp := fun vs H Q _ => ∃ g c h w cs, vs = [.ref g, .ref c] ∧ SqT K H g [.int ((h : Nat) : Int), .int ((w : Nat) : Int)] ∧ GOk h w ∧ SqL K H c ((cs : List Int).map V.int) ∧ RetV (optV (firstInner h w cs)) H Q
theorem ev_first_inner {K : PySem.W.Frag} {σ : L2.St} {H : Hp} {ta : TA} {E : XK} {g c : Addr} {h w : Nat} {cs : List Int} (ha : EvA ta σ H [.ref g, .ref c]) (hs : SqT K H g [.int (h : Int), .int (w : Int)]) (gk : GOk h w) (hc : SqL K H c (cs.map V.int)) : Ev (tCall (sp_first_inner K) [] E ta) σ H (optV (firstInner h w cs)) := fun H1 e Q q =>
  ha H1 e _ fun H2 e2 => ⟨g, c, h, w, cs, rfl, ex_t (e.trans e2) hs, gk, ex_l (e.trans e2) hc, fun H3 e3 => q H3 (e2.trans e3)⟩
def t_first_inner (K : PySem.W.Frag) : TS := (tSeq (tFor (iRng1 (tCons (tOp oMul (tOp (rIxT K) (tVar 0) (tC (.int 0))) (tOp (rIxT K) (tVar 0) (tC (.int 1)))) tNil)) (gName 2) (tIfS (tAnd (tTest (tOp (rIn K true) (tVar 2) (tVar 1))) (tB (tCall (sp_is_inner K) [] E0 (tCons (tVar 0) (tCons (tVar 1) (tCons (tVar 2) tNil)))))) (tRet (tVar 2)) tNext))
      (tRet (tC .non)))
theorem find_range_some {f : Nat → Bool} {n i : Nat} (hi : i < n) (hf : f i = true) (hb : ∀ j < i, f j = false) : (List.range n).find? f = some i := by
  rw [List.find?_range_eq_some]
  exact ⟨hf, by simpa using hi, fun j hj => by simp [hb j hj]⟩
theorem find_range_none {f : Nat → Bool} {n : Nat} (hb : ∀ j < n, f j = false) : (List.range n).find? f = none := by
  rw [List.find?_eq_none]
  intro x hx
  simp [hb x (List.mem_range.mp hx)]
theorem pure_first_inner {K : PySem.W.Frag} {vs : List V} {H : Hp} {Q : VK} {E : XK} {D : Ends} (hD : D.rt = Q) (h : sp_first_inner K vs H Q E) : t_first_inner K D (start ["grid", "cells", "cell"] vs) H := by
  obtain ⟨g, c, h, w, cs, rfl, hs, gk, hc, q⟩ := h
  subst hD
  change t_first_inner K D [some (.ref g), some (.ref c), none] H
  have gb := gk
  obtain ⟨g1, g2, g3, g4⟩ := gb
  have hwl := hw_le gk
  have cast : ((h * w : Nat) : Int) = (h : Int) * w := Int.natCast_mul h w
  have hm : ((h : Int) * w).toNat = h * w := by rw [← cast]; exact Int.toNat_natCast _
  refine q_forR1 (j := 2) (n := (h : Int) * w) (ea_cons (by walk_at "ev") ea_nil) ⟨by omega, by omega⟩ (fun i σ' H' => ∃ y2, σ' = [some (.ref g), some (.ref c), y2] ∧ Ex H H' ∧ ∀ j < i, (!decide ((j : Int) ∈ cs) && isInner h w cs (j : Int)) = false)
    (fun H1 e1 => ⟨_, rfl, e1, fun j hj => absurd hj (Nat.not_lt_zero j)⟩) (fun i σ' H1 hi hP => ?_) (fun σ' H1 hP => ?_)
  · obtain ⟨y2, rfl, e1, hk⟩ := hP
    have hc1 := ex_l e1 hc
    have hs1 := ex_t e1 hs
    refine s_when (b := !decide ((i : Int) ∈ cs) && isInner h w cs (i : Int)) (et_and (et_test (ev_notIn (ev_var rfl) (es_of (ev_var rfl) hc1))) (fun _ => et_B (ev_is_inner (ea_cons (ev_var rfl) (ea_cons (ev_var rfl) (ea_cons (ev_var rfl) ea_nil))) hs1 gk hc1))) (fun hb H2 e2 => ?_) (fun hb H2 e2 => ⟨_, rfl, e1.trans e2, fun j hj => ?_⟩)
    · refine s_ret (ev_var rfl) fun H3 e3 => ?_
      have : firstInner h w cs = some i := find_range_some (by omega) hb hk
      rw [this] at q
      exact q H3 ((e1.trans e2).trans e3)
    · by_cases hji : j < i
      · exact hk j hji
      · have : j = i := by omega
        rw [this]
        exact hb
  · obtain ⟨y2, rfl, e1, hk⟩ := hP
    rw [hm] at hk
    refine s_ret ev_c fun H2 e2 => ?_
    have : firstInner h w cs = none := find_range_none hk
    rw [this] at q
    exact q H2 (e1.trans e2)
/-! ### is_ring -/
def sp_is_ring (K : PySem.W.Frag) : Sp := fun vs H Q _ => ∃ g c h w cs, vs = [.ref g, .ref c] ∧ SqT K H g [.int ((h : Nat) : Int), .int ((w : Nat) : Int)] ∧ GOk h w ∧ SqL K H c ((cs : List Int).map V.int) ∧ cs ≠ [] ∧ cs.length ≤ 1000 ∧ RetV (.bl (isRing h w cs)) H Q
theorem ev_is_ring {K : PySem.W.Frag} {σ : L2.St} {H : Hp} {ta : TA} {E : XK} {g c : Addr} {h w : Nat} {cs : List Int} (ha : EvA ta σ H [.ref g, .ref c]) (hs : SqT K H g [.int (h : Int), .int (w : Int)]) (gk : GOk h w) (hc : SqL K H c (cs.map V.int)) (hn : cs ≠ []) (hl : cs.length ≤ 1000) : Ev (tCall (sp_is_ring K) [] E ta) σ H (.bl (isRing h w cs)) := fun H1 e Q q =>
  ha H1 e _ fun H2 e2 => ⟨g, c, h, w, cs, rfl, ex_t (e.trans e2) hs, gk, ex_l (e.trans e2) hc, hn, hl, fun H3 e3 => q H3 (e2.trans e3)⟩
def t_is_ring (K : PySem.W.Frag) : TS := (tSeq (tIfS (tTest (tOp oLt (tCB (rLenS K) (tCons (tCall (sp_spread K) [] E0 (tCons (tVar 0) (tCons (tOp (rIxL K) (tVar 1) (tC (.int 0))) (tCons (tVar 1) tNil)))) tNil)) (tCB (rLenS K) (tCons (tVar 1) tNil)))) (tRet (tC (.bl false))) tNext)
      (tRet (tOp rIsN (tCall (sp_first_inner K) [] E0 (tCons (tVar 0) (tCons (tVar 1) tNil))) (tC .non))))
theorem at_first {cs : List Int} (hn : cs ≠ []) : atI (cs.map V.int) 0 = some (.int (cs.headD 0)) := by
  cases cs with
  | nil => exact absurd rfl hn
  | cons a r => exact atI_nat (j := 0) rfl
theorem opt_is (o : Option Nat) : decide (optV o = V.non) = o.isNone := by
  cases o with
  | none => rfl
  | some n => exact decide_eq_false fun e => V.noConfusion e
theorem pure_is_ring {K : PySem.W.Frag} {vs : List V} {H : Hp} {Q : VK} {E : XK} {D : Ends} (hD : D.rt = Q) (h : sp_is_ring K vs H Q E) : t_is_ring K D (start ["grid", "cells"] vs) H := by
  obtain ⟨g, c, h, w, cs, rfl, hs, gk, hc, hn, hl, q⟩ := h
  subst hD
  change t_is_ring K D [some (.ref g), some (.ref c)] H
  have it : Ev (tOp (rIxL K) (tVar 1) (tC (.int 0))) [some (.ref g), some (.ref c)] H (.int (cs.headD 0)) := ev_ixS (es_of (ev_var rfl) hc) ev_c (at_first hn)
  have sp := el_spread (E := E0) (K := K) (ta := tCons (tVar 0) (tCons (tOp (rIxL K) (tVar 1) (tC (.int 0))) (tCons (tVar 1) tNil))) (ea_cons (ev_var rfl) (ea_cons it (ea_cons (ev_var rfl) ea_nil))) hs gk hc hl
  have t := et_test (ev_op (r := oLt) (ev_lenN (K := K) sp) (ev_lenS (K := K) (ta := tVar 1) (es_of (ev_var rfl) hc)) rv_I0)
  rw [List.length_map, List.length_map] at t
  refine q_when t (fun hb H1 e1 => ?_) (fun hb H1 e1 => ?_)
  · have : isRing h w cs = false := if_pos (by have := of_decide_eq_true hb; omega)
    rw [this] at q
    exact s_ret ev_c fun H2 e2 => q H2 (e1.trans e2)
  · have : isRing h w cs = (firstInner h w cs).isNone := if_neg (by have := of_decide_eq_false hb; omega)
    rw [this, ← opt_is] at q
    exact s_ret (ev_op (ev_first_inner (ea_cons (ev_var rfl) (ea_cons (ev_var rfl) ea_nil)) (ex_t e1 hs) gk (ex_l e1 hc)) ev_c rv_isN) fun H2 e2 => q H2 (e1.trans e2)

/-! ### instances -/
/-- what a class of the text has: plain gets and stores, these names not among its attributes -/
structure Cf (K : PySem.W.Frag) (c : Addr) (fs : List Str) : Prop where
  cl : Cls K c
  no : ∀ f ∈ fs, NoAttr K c f
theorem lk_self {f : Str} {v : V} {r : List (Str × V)} : List.lookup f ((f, v) :: r) = some v := List.lookup_cons_self
theorem lk_ne {f g : Str} {v : V} {r : List (Str × V)} (h : ¬ g = f) : List.lookup g ((f, v) :: r) = List.lookup g r := by
  have hb : (g == f) = false := beq_eq_false_iff_ne.mpr h
  simp only [List.lookup, hb]
theorem lk_nil {g : Str} : List.lookup g ([] : List (Str × V)) = none := rfl
theorem put_ne {f g : Str} {v u : V} (h : ¬ f = g) : putF g u [(f, v)] = [(f, v), (g, u)] := by
  show (if f = g then [(f, u)] else (f, v) :: putF g u []) = _
  rw [if_neg h]
  rfl
theorem one_other : ¬ (("one" : Str) = "other") := by decide +kernel
theorem other_one : ¬ (("other" : Str) = "one") := by decide +kernel
theorem shows_one : ¬ (("shows" : Str) = "one") := by decide +kernel
theorem shows_other : ¬ (("shows" : Str) = "other") := by decide +kernel
theorem shows_cell : ¬ (("shows" : Str) = "cell") := by decide +kernel
theorem shows_cells : ¬ (("shows" : Str) = "cells") := by decide +kernel
section
variable {K : PySem.W.Frag} {σ : L2.St} {H H' : Hp} {ta tv te : TE} {D : Ends} {tz : TS} {p c dx : Addr} {fs : List (Str × V)} {f : Str} {ns : List Str} {v : V} {xs : List V}
theorem ev_fld (ha : Ev ta σ H (.ref p)) (hp : H p = some (.ins c dx fs)) (k : Cf K c ns) (hf : f ∈ ns) (hl : fs.lookup f = some v) : Ev (tFld K ta f) σ H v := fun H1 e Q q =>
  ha H1 e _ fun H2 e2 => ⟨p, c, dx, fs, v, rfl, e2 _ _ (e _ _ hp), k.cl, k.no f hf, hl, q H2 e2⟩
theorem s_fld (hv : Ev tv σ H v) (ha : Ev ta σ H (.ref p)) (hp : H p = some (.ins c dx fs)) (k : Cf K c ns) (hf : f ∈ ns) (hl : fs.length < 1000) (h : ∀ H1, Ex H H1 → D.nx σ (upd H1 p (.ins c dx (putF f v fs)))) : sFld K ta tv f D σ H :=
  hv H (Ex.refl H) _ fun H1 e1 => ha H1 e1 _ fun H2 e2 => ⟨p, c, dx, fs, rfl, e2 _ _ (e1 _ _ hp), k.cl, k.no f hf, hl, h H2 (e1.trans e2)⟩
theorem q_fld (hv : Ev tv σ H v) (ha : Ev ta σ H (.ref p)) (hp : H p = some (.ins c dx fs)) (k : Cf K c ns) (hf : f ∈ ns) (hl : fs.length < 1000) (h : ∀ H1, Ex H H1 → tz D σ (upd H1 p (.ins c dx (putF f v fs)))) : tSeq (sFld K ta tv f) tz D σ H :=
  s_fld (D := { D with nx := tz D }) hv ha hp k hf hl h
theorem s_fldL (hv : EvL tv σ H xs) (ha : Ev ta σ H (.ref p)) (hp : H p = some (.ins c dx fs)) (k : Cf K c ns) (hf : f ∈ ns) (hl : fs.length < 1000) (h : ∀ l H1, H l = none → Ex H H1 → H1 l = some (.lst xs) → D.nx σ (upd H1 p (.ins c dx (putF f (.ref l) fs)))) : sFld K ta tv f D σ H :=
  hv H (Ex.refl H) _ fun l H1 hl1 e1 h1 => ha H1 e1 _ fun H2 e2 => ⟨p, c, dx, fs, rfl, e2 _ _ (e1 _ _ hp), k.cl, k.no f hf, hl, h l H2 hl1 (e1.trans e2) (e2 _ _ h1)⟩
theorem q_fldL (hv : EvL tv σ H xs) (ha : Ev ta σ H (.ref p)) (hp : H p = some (.ins c dx fs)) (k : Cf K c ns) (hf : f ∈ ns) (hl : fs.length < 1000) (h : ∀ l H1, H l = none → Ex H H1 → H1 l = some (.lst xs) → tz D σ (upd H1 p (.ins c dx (putF f (.ref l) fs)))) : tSeq (sFld K ta tv f) tz D σ H :=
  s_fldL (D := { D with nx := tz D }) hv ha hp k hf hl h
end
/-- a new instance of the class c with these fields -/
def NewI (c : Addr) (fs : List (Str × V)) (H1 : Hp) (v : V) (H2 : Hp) : Prop := ∃ p dx, v = .ref p ∧ H1 p = none ∧ H2 p = some (.ins c dx fs)
theorem NewI.back {c : Addr} {fs : List (Str × V)} {H0 H1 H2 : Hp} {v : V} (e : Ex H0 H1) (h : NewI c fs H1 v H2) : NewI c fs H0 v H2 := by
  obtain ⟨p, dx, rfl, hp, h2⟩ := h
  exact ⟨p, dx, rfl, fresh_back e hp, h2⟩
theorem NewI.on {c : Addr} {fs : List (Str × V)} {H1 H2 H3 : Hp} {v : V} (e : Ex H2 H3) (h : NewI c fs H1 v H2) : NewI c fs H1 v H3 := by
  obtain ⟨p, dx, rfl, hp, h2⟩ := h
  exact ⟨p, dx, rfl, hp, e _ _ h2⟩
theorem ep_bare {c : Addr} {σ : L2.St} {H : Hp} : EvP (tBare c) σ H (NewI c []) := fun H1 e Q q x dx hx hdx ne =>
  q _ _ (fun a o ha => by rw [upd_ne (ne_of_none ha hx), upd_ne (ne_of_none ha hdx)]; exact ha) ⟨x, dx, rfl, hx, upd_same⟩
/-- all but p stays -/
def ButP (p : Addr) (H H2 : Hp) : Prop := ∀ a o, a ≠ p → H a = some o → H2 a = some o
theorem made_ex {H H2 : Hp} {x dx c : Addr} (hx : H x = none) (hdx : H dx = none) (h : ButP x (upd (upd H dx (.own x)) x (.ins c dx [])) H2) : Ex H H2 := fun a o ha => by
  have n1 := ne_of_none ha hx
  refine h a o n1 ?_
  rw [upd_ne n1, upd_ne (ne_of_none ha hdx)]
  exact ha
/-! ### Ring -/
def sp_Ring_shows (K : PySem.W.Frag) : Sp := fun vs H Q _ => ∃ p g c h w cs, vs = [.ref p, .ref g, .ref c] ∧ SqT K H g [.int ((h : Nat) : Int), .int ((w : Nat) : Int)] ∧ GOk h w ∧ SqL K H c ((cs : List Int).map V.int) ∧ cs ≠ [] ∧ cs.length ≤ 1000 ∧ RetV (.bl (isRing h w cs)) H Q
def t_Ring_shows (K : PySem.W.Frag) : TS := (tRet (tCall (sp_is_ring K) [] E0 (tCons (tVar 1) (tCons (tVar 2) tNil))))
theorem pure_Ring_shows {K : PySem.W.Frag} {vs : List V} {H : Hp} {Q : VK} {E : XK} {D : Ends} (hD : D.rt = Q) (h : sp_Ring_shows K vs H Q E) : t_Ring_shows K D (start ["self", "grid", "cells"] vs) H := by
  obtain ⟨p, g, c, h, w, cs, rfl, hs, gk, hc, hn, hl, q⟩ := h
  subst hD
  change t_Ring_shows K D [some (.ref p), some (.ref g), some (.ref c)] H
  exact s_ret (ev_is_ring (ea_cons (ev_var rfl) (ea_cons (ev_var rfl) ea_nil)) hs gk hc hn hl) fun H1 e1 => q H1 e1
/-! ### Split -/
def flds2 (u v : V) : List (Str × V) := [("one", u), ("other", v)]
theorem flds2_one {u v : V} : (flds2 u v).lookup ("one" : Str) = some u := lk_self
theorem flds2_other {u v : V} : (flds2 u v).lookup ("other" : Str) = some v := (lk_ne other_one).trans lk_self
theorem flds2_shows {u v : V} : (flds2 u v).lookup ("shows" : Str) = none := (lk_ne shows_one).trans (lk_ne shows_other)
def sp_Split_init (K : PySem.W.Frag) (C : Ad) : Sp := fun vs H Q _ => ∃ p dx u v, vs = [.ref p, u, v] ∧ H p = some (.ins C.cSplit dx []) ∧ ∀ H2, ButP p H H2 → H2 p = some (.ins C.cSplit dx (flds2 u v)) → Q .non H2
def t_Split_init (K : PySem.W.Frag) : TS := (tSeq (sFld K (tVar 0) (tVar 1) "one")
      (sFld K (tVar 0) (tVar 2) "other"))
theorem pure_Split_init {K : PySem.W.Frag} {C : Ad} {vs : List V} {H : Hp} {Q : VK} {E : XK} {D : Ends} (hD : D.nx = fun _ H' => Q .non H') (cf_Split : Cf K C.cSplit ["one", "other"]) (h : sp_Split_init K C vs H Q E) : t_Split_init K D (start ["self", "one", "other"] vs) H := by
  obtain ⟨p, dx, u, v, rfl, hp, q⟩ := h
  change t_Split_init K D [some (.ref p), some u, some v] H
  refine q_fld (ev_var rfl) (ev_var rfl) hp cf_Split (by simp) (by simp) fun H1 e1 => ?_
  refine s_fld (ev_var rfl) (ev_var rfl) upd_same cf_Split (by simp) (by simp [putF]) fun H2 e2 => ?_
  rw [hD]
  refine q _ (fun a o ne ha => ?_) ?_
  · rw [upd_ne ne]
    refine e2 _ _ ?_
    rw [upd_ne ne]
    exact e1 _ _ ha
  · rw [upd_same]
    exact congrArg (fun z => some (HO.ins C.cSplit dx z)) (put_ne one_other)
theorem ep_Split {K : PySem.W.Frag} {C : Ad} {σ : L2.St} {H : Hp} {ta : TA} {E : XK} {u v : V} (ha : EvA ta σ H [u, v]) : EvP (tMake C.cSplit (sp_Split_init K C) [] E ta) σ H (NewI C.cSplit (flds2 u v)) := fun H1 e Q q =>
  ha H1 e _ fun H2 e2 x dx hx hdx ne => ⟨x, dx, u, v, rfl, upd_same, fun H3 b h3 => ⟨rfl, q _ H3 (e2.trans (made_ex hx hdx b)) ⟨x, dx, rfl, fresh_back e2 hx, h3⟩⟩⟩
def splitShows (h w : Nat) (cs : List Int) (x y : Int) : Bool := (decide (x ∈ cs) && decide (y ∈ cs)) && !decide (y ∈ spread h w x cs)
def sp_Split_shows (K : PySem.W.Frag) (C : Ad) : Sp := fun vs H Q _ => ∃ p g c h w cs dx x y, vs = [.ref p, .ref g, .ref c] ∧ H p = some (.ins C.cSplit dx (flds2 (.int x) (.int y))) ∧ SqT K H g [.int ((h : Nat) : Int), .int ((w : Nat) : Int)] ∧ GOk h w ∧ SqL K H c ((cs : List Int).map V.int) ∧ cs.length ≤ 1000 ∧ RetV (.bl (splitShows h w cs x y)) H Q
def t_Split_shows (K : PySem.W.Frag) : TS := (tSeq (tIfS (tOr (tTest (tOp (rIn K true) (tFld K (tVar 0) "one") (tVar 2))) (tTest (tOp (rIn K true) (tFld K (tVar 0) "other") (tVar 2)))) (tRet (tC (.bl false))) tNext)
      (tRet (tOp (rIn K true) (tFld K (tVar 0) "other") (tCall (sp_spread K) [] E0 (tCons (tVar 1) (tCons (tFld K (tVar 0) "one") (tCons (tVar 2) tNil)))))))
theorem pure_Split_shows {K : PySem.W.Frag} {C : Ad} {vs : List V} {H : Hp} {Q : VK} {E : XK} {D : Ends} (hD : D.rt = Q) (cf_Split : Cf K C.cSplit ["one", "other"]) (h : sp_Split_shows K C vs H Q E) : t_Split_shows K D (start ["self", "grid", "cells"] vs) H := by
  obtain ⟨p, g, c, h, w, cs, dx, x, y, rfl, hp, hs, gk, hc, hl, q⟩ := h
  subst hD
  change t_Split_shows K D [some (.ref p), some (.ref g), some (.ref c)] H
  have f1 : ∀ {H1}, Ex H H1 → Ev (tFld K (tVar 0) "one") [some (.ref p), some (.ref g), some (.ref c)] H1 (.int x) := fun e => ev_fld (ev_var rfl) (e _ _ hp) cf_Split (by simp) flds2_one
  have f2 : ∀ {H1}, Ex H H1 → Ev (tFld K (tVar 0) "other") [some (.ref p), some (.ref g), some (.ref c)] H1 (.int y) := fun e => ev_fld (ev_var rfl) (e _ _ hp) cf_Split (by simp) flds2_other
  refine q_when (et_or (et_test (ev_notIn (f1 (Ex.refl H)) (es_of (ev_var rfl) hc))) (fun _ => et_test (ev_notIn (f2 (Ex.refl H)) (es_of (ev_var rfl) hc)))) (fun hb H1 e1 => ?_) (fun hb H1 e1 => ?_)
  · have : splitShows h w cs x y = false := by
      unfold splitShows
      rcases Bool.or_eq_true _ _ ▸ hb with z | z
      · have : decide (x ∈ cs) = false := by simpa using z
        rw [this]; rfl
      · have : decide (y ∈ cs) = false := by simpa using z
        rw [this, Bool.and_false]; rfl
    rw [this] at q
    exact s_ret ev_c fun H2 e2 => q H2 (e1.trans e2)
  · have : splitShows h w cs x y = !decide (y ∈ spread h w x cs) := by
      unfold splitShows
      have hb := (Bool.or_eq_false_iff.mp hb)
      have z1 : decide (x ∈ cs) = true := by simpa using hb.1
      have z2 : decide (y ∈ cs) = true := by simpa using hb.2
      rw [z1, z2]; rfl
    rw [this] at q
    have sp := el_spread (E := E0) (K := K) (x := x) (ta := tCons (tVar 1) (tCons (tFld K (tVar 0) "one") (tCons (tVar 2) tNil))) (ea_cons (ev_var rfl) (ea_cons (f1 e1) (ea_cons (ev_var rfl) ea_nil))) (ex_t e1 hs) gk (ex_l e1 hc) hl
    exact s_ret (ev_notIn (f2 e1) (es_new sp)) fun H2 e2 => q H2 (e1.trans e2)
/-! ### Hole -/
def flds1 (u : V) : List (Str × V) := [("cell", u)]
theorem flds1_cell {u : V} : (flds1 u).lookup ("cell" : Str) = some u := lk_self
theorem flds1_shows {u : V} : (flds1 u).lookup ("shows" : Str) = none := lk_ne shows_cell
def sp_Hole_init (K : PySem.W.Frag) (C : Ad) : Sp := fun vs H Q _ => ∃ p dx u, vs = [.ref p, u] ∧ H p = some (.ins C.cHole dx []) ∧ ∀ H2, ButP p H H2 → H2 p = some (.ins C.cHole dx (flds1 u)) → Q .non H2
def t_Hole_init (K : PySem.W.Frag) : TS := (sFld K (tVar 0) (tVar 1) "cell")
theorem pure_Hole_init {K : PySem.W.Frag} {C : Ad} {vs : List V} {H : Hp} {Q : VK} {E : XK} {D : Ends} (hD : D.nx = fun _ H' => Q .non H') (cf_Hole : Cf K C.cHole ["cell"]) (h : sp_Hole_init K C vs H Q E) : t_Hole_init K D (start ["self", "cell"] vs) H := by
  obtain ⟨p, dx, u, rfl, hp, q⟩ := h
  change t_Hole_init K D [some (.ref p), some u] H
  refine s_fld (ev_var rfl) (ev_var rfl) hp cf_Hole (by simp) (by simp) fun H1 e1 => ?_
  rw [hD]
  refine q _ (fun a o ne ha => ?_) ?_
  · rw [upd_ne ne]
    exact e1 _ _ ha
  · rw [upd_same]
    rfl
theorem ep_Hole {K : PySem.W.Frag} {C : Ad} {σ : L2.St} {H : Hp} {ta : TA} {E : XK} {u : V} (ha : EvA ta σ H [u]) : EvP (tMake C.cHole (sp_Hole_init K C) [] E ta) σ H (NewI C.cHole (flds1 u)) := fun H1 e Q q =>
  ha H1 e _ fun H2 e2 x dx hx hdx ne => ⟨x, dx, u, rfl, upd_same, fun H3 b h3 => ⟨rfl, q _ H3 (e2.trans (made_ex hx hdx b)) ⟨x, dx, rfl, fresh_back e2 hx, h3⟩⟩⟩
def holeShows (h w : Nat) (cs : List Int) (x : Int) : Bool := (!decide (x ∈ cs) && (decide (0 ≤ x) && decide (x < (h : Int) * w))) && isInner h w cs x
def sp_Hole_shows (K : PySem.W.Frag) (C : Ad) : Sp := fun vs H Q _ => ∃ p g c h w cs dx x, vs = [.ref p, .ref g, .ref c] ∧ H p = some (.ins C.cHole dx (flds1 (.int x))) ∧ SqT K H g [.int ((h : Nat) : Int), .int ((w : Nat) : Int)] ∧ GOk h w ∧ SqL K H c ((cs : List Int).map V.int) ∧ RetV (.bl (holeShows h w cs x)) H Q
def t_Hole_shows (K : PySem.W.Frag) : TS := (tSeq (tIfS (tOr (tTest (tOp (rIn K false) (tFld K (tVar 0) "cell") (tVar 2))) (tNot (tTest (tChain oLe oLt (tC (.int 0)) (tFld K (tVar 0) "cell") (tOp oMul (tOp (rIxT K) (tVar 1) (tC (.int 0))) (tOp (rIxT K) (tVar 1) (tC (.int 1)))))))) (tRet (tC (.bl false))) tNext)
      (tRet (tCall (sp_is_inner K) [] E0 (tCons (tVar 1) (tCons (tVar 2) (tCons (tFld K (tVar 0) "cell") tNil))))))
theorem pure_Hole_shows {K : PySem.W.Frag} {C : Ad} {vs : List V} {H : Hp} {Q : VK} {E : XK} {D : Ends} (hD : D.rt = Q) (cf_Hole : Cf K C.cHole ["cell"]) (h : sp_Hole_shows K C vs H Q E) : t_Hole_shows K D (start ["self", "grid", "cells"] vs) H := by
  obtain ⟨p, g, c, h, w, cs, dx, x, rfl, hp, hs, gk, hc, q⟩ := h
  subst hD
  change t_Hole_shows K D [some (.ref p), some (.ref g), some (.ref c)] H
  have gb := gk
  obtain ⟨g1, g2, g3, g4⟩ := gb
  have f1 : ∀ {H1}, Ex H H1 → Ev (tFld K (tVar 0) "cell") [some (.ref p), some (.ref g), some (.ref c)] H1 (.int x) := fun e => ev_fld (ev_var rfl) (e _ _ hp) cf_Hole (by simp) flds1_cell
  have hm : Ev (tOp oMul (tOp (rIxT K) (tVar 1) (tC (.int 0))) (tOp (rIxT K) (tVar 1) (tC (.int 1)))) [some (.ref p), some (.ref g), some (.ref c)] H (.int ((h : Int) * w)) := by walk_at "ev"
  refine q_when (et_or (et_test (ev_isIn (f1 (Ex.refl H)) (es_of (ev_var rfl) hc))) (fun _ => et_not (et_test (ev_chain (x := .int 0) ev_c (f1 (Ex.refl H)) rv_I0 (fun _ => hm) (fun _ => rv_I0))))) (fun hb H1 e1 => ?_) (fun hb H1 e1 => ?_)
  · have : holeShows h w cs x = false := by
      unfold holeShows
      rcases Bool.or_eq_true _ _ ▸ hb with z | z
      · rw [z]; rfl
      · rw [Bool.not_eq_true'] at z
        rw [z, Bool.and_false]; rfl
    rw [this] at q
    exact s_ret ev_c fun H2 e2 => q H2 (e1.trans e2)
  · have : holeShows h w cs x = isInner h w cs x := by
      unfold holeShows
      have hb := (Bool.or_eq_false_iff.mp hb)
      rw [hb.1, show (decide (0 ≤ x) && decide (x < (h : Int) * w)) = true by simpa using hb.2]; rfl
    rw [this] at q
    exact s_ret (ev_is_inner (ea_cons (ev_var rfl) (ea_cons (ev_var rfl) (ea_cons (f1 e1) ea_nil))) (ex_t e1 hs) gk (ex_l e1 hc)) fun H2 e2 => q H2 (e1.trans e2)

/-! ### lists of lists by addresses and rows -/
def toV (b : Addr × List Int) : V := .ref b.1
theorem paired_bs {F : Addr → List V → Prop} : ∀ {ps : List Addr} {nss : List (List Int)}, Paired F ps (ints2 nss) → ∃ bs : List (Addr × List Int), ps = bs.map (·.1) ∧ nss = bs.map (·.2) ∧ ∀ b ∈ bs, F b.1 (b.2.map V.int)
  | [], [], .nil => ⟨[], rfl, rfl, fun b hb => nomatch hb⟩
  | p :: ps, ns :: nss, .cons h hs => by
    obtain ⟨bs, rfl, rfl, hb⟩ := paired_bs hs
    exact ⟨(p, ns) :: bs, rfl, rfl, fun b m => by
      rcases List.mem_cons.mp m with rfl | m
      · exact h
      · exact hb b m⟩
theorem bs_paired {F : Addr → List V → Prop} : ∀ {bs : List (Addr × List Int)}, (∀ b ∈ bs, F b.1 (b.2.map V.int)) → Paired F (bs.map (·.1)) (ints2 (bs.map (·.2)))
  | [], _ => .nil
  | b :: bs, h => .cons (h b List.mem_cons_self) (bs_paired fun c m => h c (List.mem_cons_of_mem _ m))
theorem NewLL.bs {H1 H2 : Hp} {v : V} {nss : List (List Int)} (h : NewLL H1 v H2 (ints2 nss)) : ∃ p, ∃ bs : List (Addr × List Int), v = .ref p ∧ H1 p = none ∧ H2 p = some (.lst (bs.map toV)) ∧ nss = bs.map (·.2) ∧ ∀ b ∈ bs, H1 b.1 = none ∧ H2 b.1 = some (.lst (b.2.map V.int)) := by
  obtain ⟨p, ps, rfl, hp, h2, hr⟩ := h
  obtain ⟨bs, rfl, rfl, hb⟩ := paired_bs hr
  exact ⟨p, bs, rfl, hp, by rw [List.map_map] at h2; exact h2, rfl, hb⟩
theorem NewLL.of {H1 H2 : Hp} {p : Addr} {bs : List (Addr × List Int)} (hp : H1 p = none) (h2 : H2 p = some (.lst (bs.map toV))) (hb : ∀ b ∈ bs, H1 b.1 = none ∧ H2 b.1 = some (.lst (b.2.map V.int))) : NewLL H1 (.ref p) H2 (ints2 (bs.map (·.2))) :=
  ⟨p, bs.map (·.1), rfl, hp, by rw [List.map_map]; exact h2, bs_paired (F := fun q xs => H1 q = none ∧ H2 q = some (.lst xs)) hb⟩
/-- rows of ints at an address, to be read -/
def RowsAt (K : PySem.W.Frag) (H : Hp) (a : Addr) (nss : List (List Int)) : Prop := ∃ rs : List Addr, SqL K H a (rs.map V.ref) ∧ Paired (fun (r : Addr) (ns : List Int) => SqL K H r (ns.map V.int)) rs nss
theorem RowsAt.mono {K : PySem.W.Frag} {H H' : Hp} {a : Addr} {nss : List (List Int)} (e : Ex H H') (h : RowsAt K H a nss) : RowsAt K H' a nss := by
  obtain ⟨rs, h1, h2⟩ := h
  exact ⟨rs, ex_l e h1, Paired.mapP h2 fun r ns z => ex_l e z⟩
theorem dpAll_rowsAt {K : PySem.W.Frag} {H : Hp} : ∀ {rs : List Addr} {nss : List (List Int)}, Paired (fun (r : Addr) (ns : List Int) => SqL K H r (ns.map V.int)) rs nss → DpAll K H (rs.map V.ref) (nss.map dI)
  | [], [], .nil => .nil
  | _ :: _, _ :: _, .cons h hs => .cons (dp_ints h) (dpAll_rowsAt hs)
theorem RowsAt.dp {K : PySem.W.Frag} {H : Hp} {a : Addr} {nss : List (List Int)} (h : RowsAt K H a nss) : Dp K H (.ref a) (dII nss) := by
  obtain ⟨rs, h1, h2⟩ := h
  exact .lst h1 (dpAll_rowsAt h2)
section
variable {K : PySem.W.Frag} {σ : L2.St} {H H' : Hp} {ta tb tc te tl : TE} {t : TT} {D : Ends} {tu tz : TS}
/-- [x for x in rows if t], rows new lists of ints -/
theorem ep_lcRows {j : Nat} {vs : List Nat} {nss : List (List Int)} (f : List Int → Bool) (h : EvP tl σ H (fun H1 v H2 => NewLL H1 v H2 (ints2 nss))) (hz : nss.length ≤ 40000) (hw : ∀ x, wipe ((wipe σ vs).set j (some x)) vs = wipe σ vs) (hj : ∀ x : V, ((wipe σ vs).set j (some x))[j]? = some (some x))
    (ht : ∀ (ns : List Int) q H1, Ex H H1 → ns ∈ nss → H1 q = some (.lst (ns.map V.int)) → EvT t ((wipe σ vs).set j (some (.ref q))) H1 (f ns)) :
    EvP (tLc (iList K tl) (gName j) t (tVar j) vs) σ H (fun H1 v H2 => NewLL H1 v H2 (ints2 (nss.filter f))) := fun H0 e Q q => h H0 e _ fun v H1 e1 hv => by
  obtain ⟨p, bs, rfl, hp, h1, rfl, hb⟩ := hv.bs
  rw [List.length_map] at hz
  refine ⟨p, rfl, ⟨_, sq_of h1⟩, fun Dl hD => lc_list (xs := bs.map toV) (fun n H' => H1 Dl = none ∧ Ex H1 H' ∧ H' Dl = some (.lst (((bs.take n).filter fun b => f b.2).map toV))) ⟨hD, Ex.new hD, upd_same⟩ (fun i H' _ p => sq_of (p.2.1 _ _ h1)) (fun i x H' hi p => ?_) (fun H' p => ?_)⟩
  · rw [List.getElem?_map] at hi
    obtain ⟨b, hbi, rfl⟩ := Option.map_eq_some_iff.mp hi
    have hm : b ∈ bs := List.mem_of_getElem? hbi
    obtain ⟨p1, p2, p3⟩ := p
    refine ⟨hw _, ht b.2 b.1 H1 (e.trans e1) (List.mem_map.mpr ⟨b, hm, rfl⟩) (hb b hm).2 H' p2 _ fun H3 e3 => ?_⟩
    have e2 : ((bs.take (i + 1)).filter fun b => f b.2).map toV = ((bs.take i).filter fun b => f b.2).map toV ++ if f b.2 = true then [toV b] else [] := by
      rw [take_snoc hbi, List.filter_append, List.map_append]
      congr 1
      cases hf : f b.2 <;> simp [hf]
    have hlen : (((bs.take i).filter fun b => f b.2).map toV).length < 100000 := by
      rw [List.length_map]
      have h1 := List.length_filter_le (fun b : Addr × List Int => f b.2) (bs.take i)
      have h2 : (bs.take i).length ≤ bs.length := by rw [List.length_take]; omega
      omega
    rw [e2]
    cases hf : f b.2 with
    | true =>
      rw [if_pos rfl, if_pos rfl]
      exact ⟨toV b, hj _, _, e3 _ _ p3, sz_lt hlen, p1, Ex.mut (p2.trans e3) p1, upd_same⟩
    | false =>
      rw [if_neg (by decide), if_neg (by decide), List.append_nil]
      exact ⟨p1, p2.trans e3, e3 _ _ p3⟩
  · rw [List.length_map, List.take_length] at p
    obtain ⟨p1, p2, p3⟩ := p
    refine q _ H' (e1.trans p2) ?_
    have hE : (bs.map (·.2)).filter f = (bs.filter fun b => f b.2).map (·.2) := by
      rw [List.filter_map]
      rfl
    rw [hE]
    exact NewLL.of (fresh_back e1 p1) p3 fun b hm => by
      have hm := (List.mem_filter.mp hm).1
      exact ⟨(hb b hm).1, p2 _ _ (hb b hm).2⟩
/-- for x, y in zip(xs, ys) of one length -/
theorem s_forZ {a b : Addr} {xs ys : List V} {i j : Nat} (ha : Ev ta σ H (.ref a)) (hb : Ev tb σ H (.ref b)) (hx : SqL K H a xs) (hy : SqL K H b ys) (hl : xs.length = ys.length) (Pv : Nat → L2.St → Hp → Prop) (h0 : ∀ H1, Ex H H1 → Pv 0 σ H1) (hq : ∀ n σ' H', Pv n σ' H' → Ex H H')
    (hs : ∀ n x y σ' H' T, xs[n]? = some x → ys[n]? = some y → Pv n σ' H' → H' T = none → tu { D with nx := Pv (n + 1), ct := Pv (n + 1), bk := D.nx } ((σ'.set i (some x)).set j (some y)) (upd H' T (.tup [x, y]))) (hd : ∀ σ' H', Pv xs.length σ' H' → D.nx σ' H') :
    tFor (iZip K (tCons ta (tCons tb tNil))) (gTup K 2 (gCons (gName i) (gCons (gName j) gNil))) tu D σ H :=
  ha H (Ex.refl H) _ fun H1 e1 => hb H1 e1 _ fun H2 e2 => ⟨a, b, xs, ys, rfl, ex_l (e1.trans e2) hx, ex_l (e1.trans e2) hy, RZ.for_zipL hl Pv (h0 H2 (e1.trans e2)) (fun n σ' H' p => ⟨ex_l (hq n σ' H' p) hx, ex_l (hq n σ' H' p) hy⟩)
    (fun n x y T σ' H' gx gy p hT => ⟨T, [x, y], rfl, st_of upd_same, rfl, x, [y], rfl, y, [], rfl, rfl, hs n x y σ' H' T gx gy p hT⟩) hd⟩
theorem q_forZ {a b : Addr} {xs ys : List V} {i j : Nat} (ha : Ev ta σ H (.ref a)) (hb : Ev tb σ H (.ref b)) (hx : SqL K H a xs) (hy : SqL K H b ys) (hl : xs.length = ys.length) (Pv : Nat → L2.St → Hp → Prop) (h0 : ∀ H1, Ex H H1 → Pv 0 σ H1) (hq : ∀ n σ' H', Pv n σ' H' → Ex H H')
    (hs : ∀ n x y σ' H' T, xs[n]? = some x → ys[n]? = some y → Pv n σ' H' → H' T = none → tu { D with nx := Pv (n + 1), ct := Pv (n + 1), bk := tz D } ((σ'.set i (some x)).set j (some y)) (upd H' T (.tup [x, y]))) (hd : ∀ σ' H', Pv xs.length σ' H' → tz D σ' H') :
    tSeq (tFor (iZip K (tCons ta (tCons tb tNil))) (gTup K 2 (gCons (gName i) (gCons (gName j) gNil))) tu) tz D σ H := s_forZ (D := { D with nx := tz D }) ha hb hx hy hl Pv h0 hq hs hd
/-- sorted(rows) -/
theorem ep_sortedRows {bs : List (Addr × List Int)} {a : Addr} (ha : Ev ta σ H (.ref a)) (h : SqL K H a (bs.map toV)) (hb : ∀ b ∈ bs, SqL K H b.1 (b.2.map V.int)) :
    EvP (tCB (rSortV dI K) (tCons ta tNil)) σ H (fun H1 v H2 => ∃ p, v = .ref p ∧ H1 p = none ∧ H2 p = some (.lst ((bs.mergeSort fun p q => decide (p.2 ≤ q.2)).map toV))) := fun H1 e Q q => ha H1 e _ fun H2 e2 => by
  have e12 := e.trans e2
  refine ⟨a, bs.map fun b => (toV b, b.2), rfl, ?_, fun c hc => ?_, ?_, ?_, fun c hc => ?_, fun p hp => ?_⟩
  · rw [List.map_map]
    exact ex_l e12 h
  · obtain ⟨b, hm, rfl⟩ := List.mem_map.mp hc
    exact dp_ints (ex_l e12 (hb b hm))
  · exact PySem.W.AllAlike.of (enc := fun b : V × List Int => dI b.2) fun b b' => by
      show PySem.W.alike (.list _) (.list _) = true
      rw [PySem.W.alike]
      exact PySem.W.alike_ints _ _
  · exact PySem.W.Sortable.others (enc := fun b : V × List Int => dI b.2) fun b => ⟨fun z => PyData.noConfusion z, fun xs z => PyData.noConfusion z⟩
  · show (dI c.2).depth ≤ 40
    unfold dI
    rw [PyData.depth]
    have := depth_ints c.2
    omega
  · have e3 : ((bs.map fun b => (toV b, b.2)).mergeSort (PySem.W.dataLe false fun b => dI b.2)).map (·.1) = (bs.mergeSort fun p q => decide (p.2 ≤ q.2)).map toV := by
      have d := PySem.W.dataLe_rows (β := V × List Int) (fun b => b.2)
      have d2 : (PySem.W.dataLe false fun b : V × List Int => dI b.2) = fun p q => decide (p.2 ≤ q.2) := d
      rw [d2, ← List.map_mergeSort (r := fun p q : Addr × List Int => decide (p.2 ≤ q.2)) (f := fun b : Addr × List Int => (toV b, b.2)) (fun _ _ _ _ => rfl), List.map_map]
      rfl
    rw [e3]
    exact q _ _ (e2.trans (Ex.new hp)) ⟨p, rfl, fresh_back e2 hp, upd_same⟩
end
/-! ### all_rings -/
def sp_all_rings (K : PySem.W.Frag) : Sp := fun vs H Q _ => ∃ g h w, vs = [.ref g] ∧ SqT K H g [.int ((h : Nat) : Int), .int ((w : Nat) : Int)] ∧ GOk h w ∧ h * w ≤ 9 ∧ RetP (fun H1 v H2 => NewLL H1 v H2 (ints2 (allRings h w))) H Q
theorem ep_all_rings {K : PySem.W.Frag} {σ : L2.St} {H : Hp} {ta : TE} {E : XK} {h w : Nat} (ha : EvST K ta σ H [.int (h : Int), .int (w : Int)]) (gk : GOk h w) (hm : h * w ≤ 9) : EvP (tCall (sp_all_rings K) [] E (tCons ta tNil)) σ H (fun H1 v H2 => NewLL H1 v H2 (ints2 (allRings h w))) := fun H1 e Q q =>
  ha H1 e _ fun g H2 e2 hg => ⟨g, h, w, rfl, hg, gk, hm, fun v H3 e3 z => q v H3 (e2.trans e3) (z.back e2)⟩
def t_all_rings (K : PySem.W.Frag) : TS := (tSeq (tPar 1 2 (tCons (tOp oMul (tOp (rIxT K) (tVar 0) (tC (.int 0))) (tOp (rIxT K) (tVar 0) (tC (.int 1)))) (tCons (tLst tNil) tNil)))
      (tSeq (tFor (iRng2 (tCons (tC (.int 1)) (tCons (tOp oShl (tC (.int 1)) (tVar 1)) tNil))) (gName 3) (tSeq (tAsg (tLc (iRng1 (tCons (tVar 1) tNil)) (gName 5) (tTest (tOp rEq (tOp oAnd (tOp oShr (tVar 3) (tVar 5)) (tC (.int 1))) (tC (.int 1)))) (tVar 5) [5]) (gName 4))
      (tIfS (tB (tCall (sp_is_ring K) [] E0 (tCons (tVar 0) (tCons (tVar 4) tNil)))) (tDrop (tBM K "list" rAppend (tVar 2) (tCons (tVar 4) tNil))) tNext)))
      (tRet (tCB (rSortV dI K) (tCons (tVar 2) tNil)))))
theorem pure_all_rings {K : PySem.W.Frag} {vs : List V} {H : Hp} {Q : VK} {E : XK} {D : Ends} (hD : D.rt = Q) (h : sp_all_rings K vs H Q E) : t_all_rings K D (start ["grid", "many", "found", "number", "cells", "cell"] vs) H := by
  obtain ⟨g, h, w, rfl, hs, gk, hm, q⟩ := h
  subst hD
  change t_all_rings K D [some (.ref g), none, none, none, none, none] H
  have gb := gk
  obtain ⟨g1, g2, g3, g4⟩ := gb
  have hwl := hw_le gk
  have cast : ((h * w : Nat) : Int) = (h : Int) * w := Int.natCast_mul h w
  have p9 := pow_le9 hm
  have p1 : 1 ≤ 2 ^ (h * w) := Nat.one_le_two_pow
  refine q_parL (i := 1) (j := 2) (x := .int ((h : Int) * w)) (xs := []) (by walk_at "ev") (el_lst ea_nil (by simp)) fun p H1 hp e1 h1 => ?_
  have shl : ((1 : Int) * 2 ^ ((h : Int) * w).toNat) = ((2 ^ (h * w) : Nat) : Int) := by
    rw [Int.one_mul, ← cast, Int.toNat_natCast]
    exact (Int.natCast_pow 2 (h * w)).symm
  refine q_forR2 (j := 3) (lo := 1) (n := ((2 ^ (h * w) : Nat) : Int)) (ea_cons ev_c (ea_cons (by rw [← shl]; exact ev_op (ev_c (v := .int 1)) (ev_var rfl) (rv_I ⟨by omega, by omega, by decide⟩)) ea_nil)) ⟨by decide, by decide, by omega, by omega⟩
    (fun i σ' H' => ∃ y3 y4, σ' = [some (.ref g), some (.int ((h : Int) * w)), some (.ref p), y3, y4, none] ∧ Ex H H' ∧ ∃ bs : List (Addr × List Int), H' p = some (.lst (bs.map toV)) ∧ bs.map (·.2) = ringsTo h w i ∧ ∀ b ∈ bs, (H b.1 = none ∧ b.1 ≠ p) ∧ H' b.1 = some (.lst (b.2.map V.int)))
    (fun H2 e2 => ⟨none, none, rfl, e1.trans e2, [], e2 _ _ h1, rfl, fun b hb => nomatch hb⟩) (fun i σ' H' hi hP => ?_) (fun σ' H' hP => ?_)
  · obtain ⟨y3, y4, rfl, e2, bs, h2, hbs, hb⟩ := hP
    have hs2 := ex_t e2 hs
    have ei : (1 : Int) + (i : Int) = ((i + 1 : Nat) : Int) := by omega
    have hik : i + 1 < 2 ^ (h * w) := by omega
    rw [ei]
    have l := el_lcR (σ := [some (.ref g), some (.int ((h : Int) * w)), some (.ref p), some (.int ((i + 1 : Nat) : Int)), y4, none]) (H := H') (t := tTest (tOp rEq (tOp oAnd (tOp oShr (tVar 3) (tVar 5)) (tC (.int 1))) (tC (.int 1)))) (te := tVar 5) (j := 5) (vs := [5]) (n := h * w) (ta := tCons (tVar 1) tNil)
      (fun c => decide ((i + 1) / 2 ^ c % 2 = 1)) (fun c => V.int (c : Int)) (ea_cons (by rw [cast]; exact ev_var rfl) ea_nil) (by omega) (fun x => rfl)
      (fun c H3 e3 hc => by
        have v : Ev (tOp oAnd (tOp oShr (tVar 3) (tVar 5)) (tC (.int 1))) [some (.ref g), some (.int ((h : Int) * w)), some (.ref p), some (.int ((i + 1 : Nat) : Int)), y4, some (.int (c : Int))] H3 (.int (((i + 1) / 2 ^ c % 2 : Nat) : Int)) := by
          refine ev_is (ev_op (ev_op (x := .int ((i + 1 : Nat) : Int)) (y := .int (c : Int)) (ev_var rfl) (ev_var rfl) (rv_I (by show (0 : Int) ≤ _; omega))) (ev_c (v := .int 1)) rv_I0) ?_
          show V.int (Builtin.bitAnd (((i + 1 : Nat) : Int) / 2 ^ ((c : Int)).toNat) 1) = _
          rw [PyProof.Rows.bitAnd_m1, Int.toNat_natCast]
          congr 1
        refine et_is (et_test (ev_op v (ev_c (v := .int 1)) (rv_eq rfl))) ?_
        rw [Bool.eq_iff_iff]
        simp only [decide_eq_true_eq, V.int.injEq]
        omega) (fun c H3 e3 hc _ => ev_var rfl)
    have le : (((List.range (h * w)).filter fun (c : Nat) => decide ((i + 1) / 2 ^ c % 2 = 1)).map fun (c : Nat) => V.int (c : Int)) = (cellsOf (h * w) (i + 1)).map V.int := by
      unfold cellsOf
      rw [List.map_map]
      rfl
    rw [le] at l
    refine q_asgL (i := 4) l fun c H3 hc e3 h3 => ?_
    have cne := cellsOf_ne (m := h * w) (k := i + 1) (by omega) hik
    have cl := cellsOf_len (h * w) (i + 1)
    have rs := ringsTo_succ h w i
    have rl := ringsTo_len h w i
    have bl : bs.length ≤ i := by
      have := congrArg List.length hbs
      rw [List.length_map] at this
      omega
    generalize cellsOf (h * w) (i + 1) = cs at *
    have cp : c ≠ p := (ne_of_none h2 hc).symm
    refine s_when (b := isRing h w cs) (et_B (ev_is_ring (ea_cons (ev_var rfl) (ea_cons (ev_var rfl) ea_nil)) (ex_t e3 hs2) gk (sq_of h3) cne (by omega))) (fun hb' H4 e4 => ?_) (fun hb' H4 e4 => ?_)
    · refine s_app (K := K) (l := p) (v := .ref c) (e4 _ _ (e3 _ _ h2)) (ev_var rfl) (ev_var rfl) (by rw [List.length_map]; omega) fun H5 e5 => ⟨_, _, rfl, Ex.mut (((e2.trans e3).trans e4).trans e5) hp, bs ++ [(c, cs)], ?_, ?_, fun b hm => ?_⟩
      · rw [upd_same, List.map_append]
        rfl
      · rw [List.map_append, rs, hbs, if_pos hb']
        rfl
      · rcases List.mem_append.mp hm with hm | hm
        · have z := hb b hm
          refine ⟨z.1, ?_⟩
          rw [upd_ne z.1.2]
          exact e5 _ _ (e4 _ _ (e3 _ _ z.2))
        · have : b = (c, cs) := by simpa using hm
          subst this
          refine ⟨⟨fresh_back e2 hc, cp⟩, ?_⟩
          rw [upd_ne cp]
          exact e5 _ _ (e4 _ _ h3)
    · refine ⟨_, _, rfl, (e2.trans e3).trans e4, bs, e4 _ _ (e3 _ _ h2), ?_, fun b hm => ?_⟩
      · rw [rs, hbs, hb', if_neg (by decide), List.append_nil]
      · have z := hb b hm
        exact ⟨z.1, e4 _ _ (e3 _ _ z.2)⟩
  · obtain ⟨y3, y4, rfl, e2, bs, h2, hbs, hb⟩ := hP
    have en : (((2 ^ (h * w) : Nat) : Int) - 1).toNat = 2 ^ (h * w) - 1 := by omega
    rw [en] at hbs
    refine s_retP (ep_sortedRows (K := K) (bs := bs) (ev_var rfl) (sq_of h2) (fun b hm => sq_of (hb b hm).2)) fun v H3 e3 hv => ?_
    obtain ⟨l, rfl, hl, h3⟩ := hv
    refine q _ H3 (e2.trans e3) ?_
    have e4 : allRings h w = (bs.mergeSort fun p q => decide (p.2 ≤ q.2)).map (·.2) := by
      unfold allRings
      rw [← hbs]
      exact (List.map_mergeSort (r := fun p q : Addr × List Int => decide (p.2 ≤ q.2)) (s := fun p q : List Int => decide (p ≤ q)) (f := fun b : Addr × List Int => b.2) (fun _ _ _ _ => rfl)).symm
    rw [e4]
    exact NewLL.of (fresh_back e2 hl) h3 fun b hm => by
      have hm := List.mem_mergeSort.mp hm
      exact ⟨(hb b hm).1.1, e3 _ _ (hb b hm).2⟩

/-! ### data written in place, equalities of rows -/
def EvAD (K : PySem.W.Frag) (ta : TA) (σ : L2.St) (H : Hp) (ds : List PyData) : Prop := ∀ H1, Ex H H1 → ∀ Q : List V → Hp → Prop, (∀ vs H2, Ex H1 H2 → DpAll K H2 vs ds → Q vs H2) → ta σ H1 Q
section
variable {K : PySem.W.Frag} {σ : L2.St} {H H' : Hp} {ta tb te : TE} {tr : TA} {d : PyData} {ds : List PyData}
theorem ead_nil : EvAD K tNil σ H [] := fun H1 _ _ q => q [] H1 (Ex.refl H1) .nil
theorem ead_cons (h : EvD K ta σ H d) (hr : EvAD K tr σ H ds) : EvAD K (tCons ta tr) σ H (d :: ds) := fun H1 e _ q =>
  h H1 e _ fun v H2 e2 hv => hr H2 (e.trans e2) _ fun vs H3 e3 hs => q (v :: vs) H3 (e2.trans e3) (.cons (Dp.mono e3 hv) hs)
theorem ed_lst (h : EvAD K tr σ H ds) (hl : ds.length ≤ 1000) : EvD K (tLst tr) σ H (.list ds) := fun H1 e Q q =>
  h H1 e _ fun vs H2 e2 hs => ⟨sz_of (by rw [dpAll_len hs]; omega), fun p hp => q _ _ (e2.trans (Ex.new hp)) (.lst (sq_of upd_same) (DpAll.mono (Ex.new hp) hs))⟩
theorem ed_tup (h : EvAD K tr σ H ds) (hl : ds.length ≤ 1000) : EvD K (tTup tr) σ H (.tuple ds) := fun H1 e Q q =>
  h H1 e _ fun vs H2 e2 hs => ⟨sz_of (by rw [dpAll_len hs]; omega), fun p hp => q _ _ (e2.trans (Ex.new hp)) (.tup (st_of upd_same) (DpAll.mono (Ex.new hp) hs))⟩
theorem ed_int {i : Int} (h : Ev te σ H (.int i)) : EvD K te σ H (.int i) := ed_of h (.int i)
theorem ed_is {d' : PyData} (h : EvD K te σ H d) (e : d = d') : EvD K te σ H d' := e ▸ h
end
theorem lay_dI (ns : List Int) : PyData.canLay0 (dI ns) = true := by
  unfold dI
  rw [PyData.canLay0]
  exact lay_ints ns
theorem lay_rows : ∀ nss : List (List Int), PyData.canLayAll0 (nss.map dI) = true
  | [] => rfl
  | n :: r => by
    rw [List.map_cons, PyData.canLayAll0, lay_dI n, lay_rows r]
    rfl
theorem depth_rows : ∀ nss : List (List Int), PyData.depthAll (nss.map dI) ≤ 2
  | [] => by simp [PyData.depthAll]
  | n :: r => by
    have h1 := depth_rows r
    have h2 := depth_ints n
    rw [List.map_cons, PyData.depthAll]
    have h3 : (dI n).depth ≤ 2 := by
      unfold dI
      rw [PyData.depth]
      omega
    omega
theorem shaped_rows (nss : List (List Int)) : SeqAt.shaped (dII nss) = true := shaped_of_len (lay_rows nss) (by have := depth_rows nss; omega)
theorem eqvAll_ints : ∀ xs ys : List Int, PyData.eqvAll (xs.map PyData.int) (ys.map PyData.int) = decide (xs = ys)
  | [], [] => by simp [PyData.eqvAll]
  | [], _ :: _ => by simp [PyData.eqvAll]
  | _ :: _, [] => by simp [PyData.eqvAll]
  | x :: xs, y :: ys => by
    rw [List.map_cons, List.map_cons, PyData.eqvAll, eqvAll_ints xs ys, PyData.eqv]
    rw [Bool.eq_iff_iff]
    simp
theorem eqv_dI (xs ys : List Int) : PyData.eqv (dI xs) (dI ys) = decide (xs = ys) := by
  unfold dI
  rw [PyData.eqv]
  exact eqvAll_ints xs ys
theorem eqvAll_rows : ∀ xs ys : List (List Int), PyData.eqvAll (xs.map dI) (ys.map dI) = decide (xs = ys)
  | [], [] => by simp [PyData.eqvAll]
  | [], _ :: _ => by simp [PyData.eqvAll]
  | _ :: _, [] => by simp [PyData.eqvAll]
  | x :: xs, y :: ys => by
    rw [List.map_cons, List.map_cons, PyData.eqvAll, eqvAll_rows xs ys, eqv_dI]
    rw [Bool.eq_iff_iff]
    simp
theorem eqv_dII (xs ys : List (List Int)) : PyData.eqv (dII xs) (dII ys) = decide (xs = ys) := by
  unfold dII
  rw [PyData.eqv]
  exact eqvAll_rows xs ys
theorem any_dI (xs : List (List Int)) (y : List Int) : ((xs.map dI).any fun z => PyData.eqv z (dI y)) = decide (y ∈ xs) := by
  rw [List.any_map, Bool.eq_iff_iff]
  simp only [List.any_eq_true, Function.comp, eqv_dI, decide_eq_true_eq]
  exact ⟨fun ⟨x, h, e⟩ => e ▸ h, fun h => ⟨y, h, rfl⟩⟩
theorem ed_rowsAt {K : PySem.W.Frag} {σ : L2.St} {H : Hp} {te : TE} {a : Addr} {nss : List (List Int)} (h : Ev te σ H (.ref a)) (hr : RowsAt K H a nss) : EvD K te σ H (dII nss) := ed_of h hr.dp
theorem NewLL.rows {K : PySem.W.Frag} {H1 H2 : Hp} {v : V} {nss : List (List Int)} (h : NewLL H1 v H2 (ints2 nss)) : ∃ p, v = .ref p ∧ H1 p = none ∧ RowsAt K H2 p nss := by
  obtain ⟨p, bs, rfl, hp, h2, rfl, hb⟩ := h.bs
  refine ⟨p, rfl, hp, bs.map (·.1), ?_, ?_⟩
  · rw [List.map_map]
    exact sq_of h2
  · have : ∀ {cs : List (Addr × List Int)}, (∀ b ∈ cs, H2 b.1 = some (.lst (b.2.map V.int))) → Paired (fun (r : Addr) (ns : List Int) => SqL K H2 r (ns.map V.int)) (cs.map (·.1)) (cs.map (·.2)) := by
      intro cs
      induction cs with
      | nil => exact fun _ => .nil
      | cons c r ih => exact fun h => .cons (sq_of (h c List.mem_cons_self)) (ih fun b m => h b (List.mem_cons_of_mem _ m))
    exact this fun b m => (hb b m).2
/-! ### fits -/
theorem ep_numbers_ofS {K : PySem.W.Frag} {σ : L2.St} {H : Hp} {ta tb : TE} {E : XK} {h w : Nat} {cs : List Int} (ha : EvST K ta σ H [.int (h : Int), .int (w : Int)]) (gk : GOk h w) (hc : EvS K tb σ H (cs.map V.int)) :
    EvP (tCall (sp_numbers_of K) [] E (tCons ta (tCons tb tNil))) σ H (fun H1 v H2 => NewLL H1 v H2 (ints2 (numbersOf h w cs))) := fun H1 e Q q =>
  ha H1 e _ fun g H2 e2 hg => hc H2 (e.trans e2) _ fun c H3 e3 hc3 => ⟨g, c, h, w, cs, rfl, ex_t e3 hg, gk, hc3, fun v H4 e4 z => q v H4 ((e2.trans e3).trans e4) (z.back (e2.trans e3))⟩
/-- clues as the program may ask of them -/
structure CluesR (nss : List (List Int)) : Prop where
  g : GOk nss.length (nss.headD []).length
  few : nss.length * (nss.headD []).length ≤ 9
  len : ∀ ns ∈ nss, ns.length ≤ 1000
section
variable {K : PySem.W.Frag} {σ : L2.St} {H H' : Hp} {te : TE} {a : Addr} {nss : List (List Int)}
theorem ev_lenRows (h : Ev te σ H (.ref a)) (hr : RowsAt K H a nss) : Ev (tCB (rLenS K) (tCons te tNil)) σ H (.int (nss.length : Int)) := by
  obtain ⟨rs, h1, h2⟩ := hr
  refine ev_is (ev_lenS (K := K) (es_of h h1)) ?_
  rw [List.length_map, Paired.length h2]
theorem ev_row0 (h : Ev te σ H (.ref a)) (hr : RowsAt K H a nss) (hn : 1 ≤ nss.length) : ∃ r, Ev (tOp (rIxL K) te (tC (.int 0))) σ H (.ref r) ∧ SqL K H r ((nss.headD []).map V.int) := by
  obtain ⟨rs, h1, h2⟩ := hr
  cases h2 with
  | nil => simp at hn
  | cons h3 h4 => exact ⟨_, ev_ixS (es_of h h1) ev_c (atI_nat (j := 0) rfl), h3⟩
theorem est_dims (h : Ev te σ H (.ref a)) (hr : RowsAt K H a nss) (hn : 1 ≤ nss.length) : EvST K (tTup (tCons (tCB (rLenS K) (tCons te tNil)) (tCons (tCB (rLenS K) (tCons (tOp (rIxL K) te (tC (.int 0))) tNil)) tNil))) σ H [.int (nss.length : Int), .int ((nss.headD []).length : Int)] := by
  obtain ⟨r, e1, s1⟩ := ev_row0 h hr hn
  refine est_new (eu_tup (ea_cons (ev_lenRows h hr) (ea_cons (ev_is (ev_lenS (K := K) (es_of e1 s1)) ?_) ea_nil)) (by simp))
  rw [List.length_map]
end
theorem paired_len_get {α β : Type} {F : α → β → Prop} {l : List α} {m : List β} (h : Paired F l m) : l.length = m.length := Paired.length h
def sp_fits (K : PySem.W.Frag) : Sp := fun vs H Q _ => ∃ a c nss cs, vs = [.ref a, .ref c] ∧ RowsAt K H a nss ∧ CluesR nss ∧ SqL K H c ((cs : List Int).map V.int) ∧ RetV (.bl (fits nss cs)) H Q
theorem ev_fits {K : PySem.W.Frag} {σ : L2.St} {H : Hp} {ta : TA} {E : XK} {a c : Addr} {nss : List (List Int)} {cs : List Int} (ha : EvA ta σ H [.ref a, .ref c]) (hr : RowsAt K H a nss) (ck : CluesR nss) (hc : SqL K H c (cs.map V.int)) : Ev (tCall (sp_fits K) [] E ta) σ H (.bl (fits nss cs)) := fun H1 e Q q =>
  ha H1 e _ fun H2 e2 => ⟨a, c, nss, cs, rfl, hr.mono (e.trans e2), ck, ex_l (e.trans e2) hc, fun H3 e3 => q H3 (e2.trans e3)⟩
def t_fits (K : PySem.W.Frag) : TS := (tSeq (tAsg (tCall (sp_numbers_of K) [] E0 (tCons (tTup (tCons (tCB (rLenS K) (tCons (tVar 0) tNil)) (tCons (tCB (rLenS K) (tCons (tOp (rIxL K) (tVar 0) (tC (.int 0))) tNil)) tNil))) (tCons (tVar 1) tNil))) (gName 2))
      (tSeq (tFor (iZip K (tCons (tVar 0) (tCons (tVar 2) tNil))) (gTup K 2 (gCons (gName 3) (gCons (gName 4) gNil))) (tIfS (tB (tCB (rAny K) (tCons (tLc (iZip K (tCons (tVar 3) (tCons (tVar 4) tNil))) (gTup K 2 (gCons (gName 5) (gCons (gName 6) gNil))) tYes (tAndV (tOp oGe (tVar 5) (tC (.int 0))) (tOp rNe (tVar 5) (tVar 6))) [5, 6]) tNil))) (tRet (tC (.bl false))) tNext))
      (tRet (tC (.bl true)))))
theorem any_row {K : PySem.W.Frag} {σ : L2.St} {H : Hp} {r q : Addr} {ns ms : List Int} {i j : Nat} {k l : Nat} (hi : σ[i]? = some (some (.ref r))) (hj : σ[j]? = some (some (.ref q))) (hr : SqL K H r (ns.map V.int)) (hq : SqL K H q (ms.map V.int)) (hl : ns.length ≤ 1000)
    (hw : ∀ x y, wipe (((wipe σ [k, l]).set k (some x)).set l (some y)) [k, l] = wipe σ [k, l]) (h1 : ∀ x y : V, (((wipe σ [k, l]).set k (some x)).set l (some y))[k]? = some (some x)) (h2 : ∀ x y : V, (((wipe σ [k, l]).set k (some x)).set l (some y))[l]? = some (some y)) :
    Ev (tCB (rAny K) (tCons (tLc (iZip K (tCons (tVar i) (tCons (tVar j) tNil))) (gTup K 2 (gCons (gName k) (gCons (gName l) gNil))) tYes (tAndV (tOp oGe (tVar k) (tC (.int 0))) (tOp rNe (tVar k) (tVar l))) [k, l]) tNil)) σ H (.bl (!rowFits ns ms)) := by
  have w := el_lcZ (K := K) (t := tYes) (te := tAndV (tOp oGe (tVar k) (tC (.int 0))) (tOp rNe (tVar k) (tVar l))) (σ := σ) (H := H) (i := k) (j := l) (vs := [k, l]) (fun _ => true) (fun p => match p with | (.int x, .int y) => V.bl (decide (0 ≤ x) && !decide (x = y)) | _ => .non)
    (es_of (ev_var hi) hr) (es_of (ev_var hj) hq) (by rw [List.length_map]; omega) hw (fun _ _ _ _ => et_yes) (fun p H1 e1 hp _ => by
      obtain ⟨x, y⟩ := p
      have hz := List.of_mem_zip hp
      obtain ⟨m, _, rfl⟩ := List.mem_map.mp hz.1
      obtain ⟨n, _, rfl⟩ := List.mem_map.mp hz.2
      refine ev_is (ev_andV (a := decide (0 ≤ m)) (b := !decide (V.int m = V.int n)) (ev_op (x := .int m) (y := .int 0) (ev_var (h1 _ _)) ev_c rv_I0) (fun _ => ev_op (ev_var (h1 _ _)) (ev_var (h2 _ _)) (rv_ne rfl))) ?_
      simp)
  have e : ((((ns.map V.int).zip (ms.map V.int)).filter fun _ => true).map (fun p => match p with | (.int x, .int y) => V.bl (decide (0 ≤ x) && !decide (x = y)) | _ => .non)) = ((ns.zip ms).map fun p => decide (0 ≤ p.1) && !decide (p.1 = p.2)).map V.bl := by
    rw [filter_yes, List.zip_map, List.map_map, List.map_map]
    rfl
  rw [e] at w
  refine ev_is (ev_anyS (K := K) (es_new (K := K) w)) ?_
  unfold rowFits
  rw [Bool.not_not, List.any_map]
  rfl
theorem pure_fits {K : PySem.W.Frag} {vs : List V} {H : Hp} {Q : VK} {E : XK} {D : Ends} (hD : D.rt = Q) (h : sp_fits K vs H Q E) : t_fits K D (start ["clues", "cells", "told", "row", "line", "clue", "number"] vs) H := by
  obtain ⟨a, c, nss, cs, rfl, hr, ck, hc, q⟩ := h
  subst hD
  change t_fits K D [some (.ref a), some (.ref c), none, none, none, none, none] H
  have g1 := ck.g.1
  refine q_asgP (i := 2) (ep_numbers_ofS (K := K) (est_dims (ev_var rfl) hr g1) ck.g (es_of (ev_var rfl) hc)) fun v H1 e1 hv => ?_
  obtain ⟨p, rfl, hp, hn⟩ := hv.rows (K := K)
  have hr1 := hr.mono e1
  have isF : fits nss cs = (nss.zip (numbersOf nss.length (nss.headD []).length cs)).all fun p => rowFits p.1 p.2 := rfl
  have ln : (numbersOf nss.length (nss.headD []).length cs).length = nss.length := by
    unfold numbersOf
    rw [List.length_map, List.length_range]
  generalize numbersOf nss.length (nss.headD []).length cs = mss at *
  obtain ⟨rs, s1, s2⟩ := hr1
  obtain ⟨ls, l1, l2⟩ := hn
  have n1 := Paired.length s2
  have n2 := Paired.length l2
  refine q_forZ (K := K) (i := 3) (j := 4) (ev_var rfl) (ev_var rfl) s1 l1 (by rw [List.length_map, List.length_map]; omega) (fun n σ' H' => ∃ y3 y4, σ' = [some (.ref a), some (.ref c), some (.ref p), y3, y4, none, none] ∧ Ex H1 H' ∧ ∀ p ∈ (nss.zip mss).take n, rowFits p.1 p.2 = true)
    (fun H2 e2 => ⟨_, _, rfl, e2, by simp⟩) (fun n σ' H' hP => by obtain ⟨_, _, _, e2, _⟩ := hP; exact e2) (fun n x y σ' H2 T hx hy hP hT => ?_) (fun σ' H2 hP => ?_)
  · obtain ⟨y3, y4, rfl, e2, hk⟩ := hP
    rw [List.getElem?_map] at hx hy
    obtain ⟨r, hrn, rfl⟩ := Option.map_eq_some_iff.mp hx
    obtain ⟨l, hln, rfl⟩ := Option.map_eq_some_iff.mp hy
    obtain ⟨ns, hns, sr⟩ := paired_get s2 hrn
    obtain ⟨ms, hms, sl⟩ := paired_get l2 hln
    have e3 : Ex H1 (upd H2 T (.tup [.ref r, .ref l])) := e2.trans (Ex.new hT)
    have an := any_row (K := K) (σ := [some (.ref a), some (.ref c), some (.ref p), some (.ref r), some (.ref l), none, none]) (H := upd H2 T (.tup [.ref r, .ref l])) (i := 3) (j := 4) (k := 5) (l := 6) rfl rfl (ex_l e3 sr) (ex_l e3 sl) (ck.len ns (List.mem_of_getElem? hns)) (fun _ _ => rfl) (fun _ _ => rfl) (fun _ _ => rfl)
    have hz : (nss.zip mss)[n]? = some (ns, ms) := by
      rw [List.getElem?_zip_eq_some]
      exact ⟨hns, hms⟩
    refine s_when (et_B an) (fun hb H4 e4 => ?_) (fun hb H4 e4 => ⟨_, _, rfl, e3.trans e4, fun z hz' => ?_⟩)
    · refine s_ret ev_c fun H5 e5 => ?_
      have : fits nss cs = false := by
        rw [isF, List.all_eq_false]
        exact ⟨(ns, ms), List.mem_of_getElem? hz, by simpa using hb⟩
      rw [this] at q
      exact q H5 (((e1.trans e3).trans e4).trans e5)
    · rw [take_snoc hz] at hz'
      rcases List.mem_append.mp hz' with m | m
      · exact hk z m
      · have : z = (ns, ms) := by simpa using m
        rw [this]
        simpa using hb
  · obtain ⟨y3, y4, rfl, e2, hk⟩ := hP
    have hl : (rs.map V.ref).length = (nss.zip mss).length := by
      rw [List.length_map, List.length_zip]
      omega
    rw [hl, List.take_length] at hk
    refine s_ret ev_c fun H3 e3 => ?_
    have : fits nss cs = true := by
      rw [isF, List.all_eq_true]
      exact hk
    rw [this] at q
    exact q H3 ((e1.trans e2).trans e3)
/-! ### fitting_of -/
def sp_fitting_of (K : PySem.W.Frag) : Sp := fun vs H Q _ => ∃ a nss, vs = [.ref a] ∧ RowsAt K H a nss ∧ CluesR nss ∧ RetP (fun H1 v H2 => NewLL H1 v H2 (ints2 (fittingOf nss))) H Q
theorem ep_fitting_of {K : PySem.W.Frag} {σ : L2.St} {H : Hp} {ta : TA} {E : XK} {a : Addr} {nss : List (List Int)} (ha : EvA ta σ H [.ref a]) (hr : RowsAt K H a nss) (ck : CluesR nss) : EvP (tCall (sp_fitting_of K) [] E ta) σ H (fun H1 v H2 => NewLL H1 v H2 (ints2 (fittingOf nss))) := fun H1 e Q q =>
  ha H1 e _ fun H2 e2 => ⟨a, nss, rfl, hr.mono (e.trans e2), ck, fun v H3 e3 z => q v H3 (e2.trans e3) (z.back e2)⟩
def t_fitting_of (K : PySem.W.Frag) : TS := (tRet (tLc (iList K (tCall (sp_all_rings K) [] E0 (tCons (tTup (tCons (tCB (rLenS K) (tCons (tVar 0) tNil)) (tCons (tCB (rLenS K) (tCons (tOp (rIxL K) (tVar 0) (tC (.int 0))) tNil)) tNil))) tNil))) (gName 1) (tB (tCall (sp_fits K) [] E0 (tCons (tVar 0) (tCons (tVar 1) tNil)))) (tVar 1) [1]))
theorem pure_fitting_of {K : PySem.W.Frag} {vs : List V} {H : Hp} {Q : VK} {E : XK} {D : Ends} (hD : D.rt = Q) (h : sp_fitting_of K vs H Q E) : t_fitting_of K D (start ["clues", "cells"] vs) H := by
  obtain ⟨a, nss, rfl, hr, ck, q⟩ := h
  subst hD
  change t_fitting_of K D [some (.ref a), none] H
  have g1 := ck.g.1
  refine s_retP (ep_lcRows (K := K) (j := 1) (vs := [1]) (fits nss) (ep_all_rings (K := K) (est_dims (ev_var rfl) hr g1) ck.g ck.few) (by have := allRings_len nss.length (nss.headD []).length ck.few; omega) (fun _ => rfl) (fun _ => rfl) (fun ns p H1 e1 hm h1 => ?_)) fun v H1 e1 hv => q v H1 e1 hv
  exact et_B (ev_fits (ea_cons (ev_var rfl) (ea_cons (ev_var rfl) ea_nil)) (hr.mono e1) ck (sq_of h1))
/-! ### One, Two, Never -/
def fldsC (u : V) : List (Str × V) := [("cells", u)]
theorem fldsC_cells {u : V} : (fldsC u).lookup ("cells" : Str) = some u := lk_self
theorem fldsC_shows {u : V} : (fldsC u).lookup ("shows" : Str) = none := lk_ne shows_cells
/-- a new instance of One, Two: new lists -/
def NewOne (C : Ad) (xs : List V) (H1 : Hp) (v : V) (H2 : Hp) : Prop := ∃ p dx l, v = .ref p ∧ H1 p = none ∧ H1 l = none ∧ H2 p = some (.ins C.cOne dx (fldsC (.ref l))) ∧ H2 l = some (.lst xs)
def NewTwo (C : Ad) (xs ys : List V) (H1 : Hp) (v : V) (H2 : Hp) : Prop := ∃ p dx l m, v = .ref p ∧ H1 p = none ∧ H1 l = none ∧ H1 m = none ∧ l ≠ m ∧ H2 p = some (.ins C.cTwo dx (flds2 (.ref l) (.ref m))) ∧ H2 l = some (.lst xs) ∧ H2 m = some (.lst ys)
def sp_One_init (K : PySem.W.Frag) (C : Ad) : Sp := fun vs H Q _ => ∃ p dx a xs, vs = [.ref p, .ref a] ∧ H p = some (.ins C.cOne dx []) ∧ SqL K H a xs ∧ ∀ l H2, H l = none → ButP p H H2 → H2 p = some (.ins C.cOne dx (fldsC (.ref l))) → H2 l = some (.lst xs) → Q .non H2
def t_One_init (K : PySem.W.Frag) : TS := (sFld K (tVar 0) (tCB (rListS K) (tCons (tVar 1) tNil)) "cells")
theorem pure_One_init {K : PySem.W.Frag} {C : Ad} {vs : List V} {H : Hp} {Q : VK} {E : XK} {D : Ends} (hD : D.nx = fun _ H' => Q .non H') (cf_One : Cf K C.cOne ["cells"]) (h : sp_One_init K C vs H Q E) : t_One_init K D (start ["self", "cells"] vs) H := by
  obtain ⟨p, dx, a, xs, rfl, hp, ha, q⟩ := h
  change t_One_init K D [some (.ref p), some (.ref a)] H
  refine s_fldL (xs := xs) (el_listS (es_of (ev_var rfl) ha)) (ev_var rfl) hp cf_One (by simp) (by simp) fun l H1 hl e1 h1 => ?_
  rw [hD]
  have ne : l ≠ p := (ne_of_none hp hl).symm
  refine q l _ hl (fun b o nb hb => ?_) upd_same ?_
  · rw [upd_ne nb]
    exact e1 _ _ hb
  · rw [upd_ne ne]
    exact h1
theorem ep_One {K : PySem.W.Frag} {C : Ad} {σ : L2.St} {H : Hp} {ta : TE} {E : XK} {xs : List V} (ha : EvS K ta σ H xs) : EvP (tMake C.cOne (sp_One_init K C) [] E (tCons ta tNil)) σ H (NewOne C xs) := fun H1 e Q q =>
  ha H1 e _ fun a H2 e2 hx x dx hx1 hdx ne => by
    have e3 : Ex H2 (upd (upd H2 dx (.own x)) x (.ins C.cOne dx [])) := fun b o hb => by rw [upd_ne (ne_of_none hb hx1), upd_ne (ne_of_none hb hdx)]; exact hb
    refine ⟨x, dx, a, xs, rfl, upd_same, ex_l e3 hx, fun l H3 hl b h3 h4 => ⟨rfl, q _ H3 (e2.trans (made_ex hx1 hdx b)) ⟨x, dx, l, rfl, fresh_back e2 hx1, fresh_back (e2.trans e3) hl, h3, h4⟩⟩⟩
def sp_Two_init (K : PySem.W.Frag) (C : Ad) : Sp := fun vs H Q _ => ∃ p dx a b xs ys, vs = [.ref p, .ref a, .ref b] ∧ H p = some (.ins C.cTwo dx []) ∧ SqL K H a xs ∧ SqL K H b ys ∧ a ≠ p ∧ b ≠ p ∧ ∀ l m H2, H l = none → H m = none → l ≠ m → ButP p H H2 → H2 p = some (.ins C.cTwo dx (flds2 (.ref l) (.ref m))) → H2 l = some (.lst xs) → H2 m = some (.lst ys) → Q .non H2
def t_Two_init (K : PySem.W.Frag) : TS := (tSeq (sFld K (tVar 0) (tCB (rListS K) (tCons (tVar 1) tNil)) "one")
      (sFld K (tVar 0) (tCB (rListS K) (tCons (tVar 2) tNil)) "other"))
theorem sql_but {K : PySem.W.Frag} {p b : Addr} {H H2 : Hp} {xs : List V} (h : ButP p H H2) (ne : b ≠ p) (hs : SqL K H b xs) : SqL K H2 b xs := by
  rcases hs with (hs | ⟨o, hs⟩) | hs
  · exact .inl (.inl (h _ _ ne hs))
  · exact .inl (.inr ⟨o, h _ _ ne hs⟩)
  · exact .inr hs
theorem pure_Two_init {K : PySem.W.Frag} {C : Ad} {vs : List V} {H : Hp} {Q : VK} {E : XK} {D : Ends} (hD : D.nx = fun _ H' => Q .non H') (cf_Two : Cf K C.cTwo ["one", "other"]) (h : sp_Two_init K C vs H Q E) : t_Two_init K D (start ["self", "one", "other"] vs) H := by
  obtain ⟨p, dx, a, b, xs, ys, rfl, hp, ha, hb, na, nb, q⟩ := h
  change t_Two_init K D [some (.ref p), some (.ref a), some (.ref b)] H
  refine q_fldL (xs := xs) (el_listS (es_of (ev_var rfl) ha)) (ev_var rfl) hp cf_Two (by simp) (by simp) fun l H1 hl e1 h1 => ?_
  have lp : l ≠ p := (ne_of_none hp hl).symm
  have bt : ButP p H (upd H1 p (.ins C.cTwo dx (putF "one" (.ref l) []))) := fun c o nc hc => by rw [upd_ne nc]; exact e1 _ _ hc
  refine s_fldL (xs := ys) (el_listS (es_of (ev_var rfl) (sql_but bt nb hb))) (ev_var rfl) upd_same cf_Two (by simp) (by simp [putF]) fun m H2 hm e2 h2 => ?_
  rw [hD]
  have h1' : (upd H1 p (.ins C.cTwo dx (putF "one" (.ref l) []))) l = some (.lst xs) := by rw [upd_ne lp]; exact h1
  have mp : m ≠ p := fun z => by rw [z, upd_same] at hm; cases hm
  have lm : l ≠ m := fun z => by rw [← z, h1'] at hm; cases hm
  have hm1 : H1 m = none := by rw [upd_ne mp] at hm; exact hm
  refine q l m _ hl (fresh_back e1 hm1) lm (fun c o nc hc => ?_) ?_ ?_ ?_
  · rw [upd_ne nc]
    exact e2 _ _ (bt _ _ nc hc)
  · rw [upd_same]
    exact congrArg (fun z => some (HO.ins C.cTwo dx z)) (put_ne one_other)
  · rw [upd_ne lp]
    exact e2 _ _ h1'
  · rw [upd_ne mp]
    exact h2
theorem sql_ne {K : PySem.W.Frag} {H : Hp} {a x : Addr} {xs : List V} (h : SqL K H a xs) (hk : ∀ o, K.lookup a = some o → a ≠ x) (hx : H x = none) : a ≠ x := by
  rcases h with (h | ⟨o, h⟩) | ⟨o, its, n, h, _⟩
  · exact ne_of_none h hx
  · exact ne_of_none h hx
  · exact hk o h
theorem ep_Two {K : PySem.W.Frag} {C : Ad} {σ : L2.St} {H : Hp} {ta tb : TE} {E : XK} {xs ys : List V} {a b : Addr} (ha : Ev ta σ H (.ref a)) (hb : Ev tb σ H (.ref b)) (hx : H a = some (.lst xs)) (hy : H b = some (.lst ys)) : EvP (tMake C.cTwo (sp_Two_init K C) [] E (tCons ta (tCons tb tNil))) σ H (NewTwo C xs ys) := fun H1 e Q q =>
  ha H1 e _ fun H2 e2 => hb H2 (e.trans e2) _ fun H3 e3 x dx hx1 hdx ne => by
    have e4 : Ex H3 (upd (upd H3 dx (.own x)) x (.ins C.cTwo dx [])) := fun c o hc => by rw [upd_ne (ne_of_none hc hx1), upd_ne (ne_of_none hc hdx)]; exact hc
    have e14 := (e.trans e2).trans e3
    refine ⟨x, dx, a, b, xs, ys, rfl, upd_same, sq_of (e4 _ _ (e14 _ _ hx)), sq_of (e4 _ _ (e14 _ _ hy)), ne_of_none (e14 _ _ hx) hx1, ne_of_none (e14 _ _ hy) hx1, fun l m H4 hl hm lm bt h5 h6 h7 => ⟨rfl, q _ H4 ((e2.trans e3).trans (made_ex hx1 hdx bt)) ⟨x, dx, l, m, rfl, fresh_back (e2.trans e3) hx1, fresh_back ((e2.trans e3).trans e4) hl, fresh_back ((e2.trans e3).trans e4) hm, lm, h5, h6, h7⟩⟩⟩
def sp_One_shows (K : PySem.W.Frag) (C : Ad) : Sp := fun vs H Q _ => ∃ p a dx l nss ns, vs = [.ref p, .ref a] ∧ H p = some (.ins C.cOne dx (fldsC (.ref l))) ∧ SqL K H l ((ns : List Int).map V.int) ∧ RowsAt K H a nss ∧ CluesR nss ∧ RetV (.bl (decide (fittingOf nss = [ns]))) H Q
def t_One_shows (K : PySem.W.Frag) : TS := (tRet (tOp (rEqD K) (tCall (sp_fitting_of K) [] E0 (tCons (tVar 1) tNil)) (tLst (tCons (tFld K (tVar 0) "cells") tNil))))
theorem pure_One_shows {K : PySem.W.Frag} {C : Ad} {vs : List V} {H : Hp} {Q : VK} {E : XK} {D : Ends} (hD : D.rt = Q) (cf_One : Cf K C.cOne ["cells"]) (h : sp_One_shows K C vs H Q E) : t_One_shows K D (start ["self", "clues"] vs) H := by
  obtain ⟨p, a, dx, l, nss, ns, rfl, hp, hl, hr, ck, q⟩ := h
  subst hD
  change t_One_shows K D [some (.ref p), some (.ref a)] H
  refine s_ret (ev_is (ev_eqD (d := dII (fittingOf nss)) (d' := dII [ns]) (ed_p (ep_fitting_of (ea_cons (ev_var rfl) ea_nil) hr ck) fun _ _ _ z => z.dp) (ed_lst (ead_cons (ed_of (ev_fld (ev_var rfl) hp cf_One (by simp) fldsC_cells) (dp_ints hl)) ead_nil) (by simp)) (shaped_rows _) (shaped_rows _)) (by rw [eqv_dII])) fun H1 e1 => q H1 e1
def twoShows (nss : List (List Int)) (a b : List Int) : Bool := !decide (a = b) && (decide (a ∈ fittingOf nss) && decide (b ∈ fittingOf nss))
def sp_Two_shows (K : PySem.W.Frag) (C : Ad) : Sp := fun vs H Q _ => ∃ p a dx l m nss ns ms, vs = [.ref p, .ref a] ∧ H p = some (.ins C.cTwo dx (flds2 (.ref l) (.ref m))) ∧ SqL K H l ((ns : List Int).map V.int) ∧ SqL K H m ((ms : List Int).map V.int) ∧ RowsAt K H a nss ∧ CluesR nss ∧ RetV (.bl (twoShows nss ns ms)) H Q
def t_Two_shows (K : PySem.W.Frag) : TS := (tSeq (tAsg (tCall (sp_fitting_of K) [] E0 (tCons (tVar 1) tNil)) (gName 2))
      (tRet (tAndV (tOp (rNeD K) (tFld K (tVar 0) "one") (tFld K (tVar 0) "other")) (tAndV (tOp (rInD K) (tFld K (tVar 0) "one") (tVar 2)) (tOp (rInD K) (tFld K (tVar 0) "other") (tVar 2))))))
theorem pure_Two_shows {K : PySem.W.Frag} {C : Ad} {vs : List V} {H : Hp} {Q : VK} {E : XK} {D : Ends} (hD : D.rt = Q) (cf_Two : Cf K C.cTwo ["one", "other"]) (h : sp_Two_shows K C vs H Q E) : t_Two_shows K D (start ["self", "clues", "found"] vs) H := by
  obtain ⟨p, a, dx, l, m, nss, ns, ms, rfl, hp, hl, hm, hr, ck, q⟩ := h
  subst hD
  change t_Two_shows K D [some (.ref p), some (.ref a), none] H
  refine q_asgP (i := 2) (ep_fitting_of (ea_cons (ev_var rfl) ea_nil) hr ck) fun v H1 e1 hv => ?_
  have dv : Dp K H1 v (dII (fittingOf nss)) := hv.dp
  have f1 : EvD K (tFld K (tVar 0) "one") [some (.ref p), some (.ref a), some v] H1 (dI ns) := ed_of (ev_fld (ev_var rfl) (e1 _ _ hp) cf_Two (by simp) flds2_one) (dp_ints (ex_l e1 hl))
  have f2 : EvD K (tFld K (tVar 0) "other") [some (.ref p), some (.ref a), some v] H1 (dI ms) := ed_of (ev_fld (ev_var rfl) (e1 _ _ hp) cf_Two (by simp) flds2_other) (dp_ints (ex_l e1 hm))
  refine s_ret (ev_is (ev_andV (a := !decide (ns = ms)) (ev_is (ev_neD f1 f2 (shaped_ints _) (shaped_ints _)) (by rw [eqv_dI])) (fun _ => ev_andV (a := decide (ns ∈ fittingOf nss)) (b := decide (ms ∈ fittingOf nss)) (ev_is (ev_inD (ds := (fittingOf nss).map dI) f1 (ed_of (ev_var rfl) dv) (shaped_ints _) (shaped_rows _)) (by rw [any_dI])) (fun _ => ev_is (ev_inD (ds := (fittingOf nss).map dI) f2 (ed_of (ev_var rfl) dv) (shaped_ints _) (shaped_rows _)) (by rw [any_dI])))) rfl) fun H2 e2 => q H2 (e1.trans e2)
def sp_Never_shows (K : PySem.W.Frag) : Sp := fun vs H Q _ => ∃ p a nss, vs = [.ref p, .ref a] ∧ RowsAt K H a nss ∧ CluesR nss ∧ RetV (.bl (decide (fittingOf nss = []))) H Q
def t_Never_shows (K : PySem.W.Frag) : TS := (tRet (tOp (rEqD K) (tCall (sp_fitting_of K) [] E0 (tCons (tVar 1) tNil)) (tLst tNil)))
theorem pure_Never_shows {K : PySem.W.Frag} {vs : List V} {H : Hp} {Q : VK} {E : XK} {D : Ends} (hD : D.rt = Q) (h : sp_Never_shows K vs H Q E) : t_Never_shows K D (start ["self", "clues"] vs) H := by
  obtain ⟨p, a, nss, rfl, hr, ck, q⟩ := h
  subst hD
  change t_Never_shows K D [some (.ref p), some (.ref a)] H
  refine s_ret (ev_is (ev_eqD (d := dII (fittingOf nss)) (d' := dII []) (ed_p (ep_fitting_of (ea_cons (ev_var rfl) ea_nil) hr ck) fun _ _ _ z => z.dp) (ed_lst ead_nil (by simp)) (shaped_rows _) (shaped_rows _)) (by rw [eqv_dII])) fun H1 e1 => q H1 e1

/-! ### judged -/
inductive Ans
  | ring
  | split (x y : Int)
  | hole (x : Int)
deriving DecidableEq
def judgedM (h w : Nat) (cs : List Int) : Ans :=
  if (spread h w (cs.headD 0) cs).length < cs.length then .split (cs.headD 0) ((cs.filter fun c => !decide (c ∈ spread h w (cs.headD 0) cs)).headD 0)
  else match firstInner h w cs with
    | none => .ring
    | some i => .hole (i : Int)
def NewAns (C : Ad) : Ans → Hp → V → Hp → Prop
  | .ring => NewI C.cRing []
  | .split x y => NewI C.cSplit (flds2 (.int x) (.int y))
  | .hole x => NewI C.cHole (flds1 (.int x))
theorem NewAns.back {C : Ad} {a : Ans} {H0 H1 H2 : Hp} {v : V} (e : Ex H0 H1) (h : NewAns C a H1 v H2) : NewAns C a H0 v H2 := by
  cases a <;> exact NewI.back e h
theorem NewAns.on {C : Ad} {a : Ans} {H1 H2 H3 : Hp} {v : V} (e : Ex H2 H3) (h : NewAns C a H1 v H2) : NewAns C a H1 v H3 := by
  cases a <;> exact NewI.on e h
/-- a door with a grid and cells: refused, or R -/
def DoorGC (K : PySem.W.Frag) (C : Ad) (v u : V) (H : Hp) (Q : VK) (E : XK) (ok : Addr → Nat → Nat → List Int → Prop) : Prop :=
  (BadG K H v ∧ RetE C.cBadGrid H E) ∨
   (∃ g h w, v = .ref g ∧ SqT K H g [.int ((h : Nat) : Int), .int ((w : Nat) : Int)] ∧ GOk h w ∧ ((BadC K H ((h : Int) * w) u ∧ RetE C.cBadCells H E) ∨
     ∃ c cs, u = .ref c ∧ SqL K H c (cs.map V.int) ∧ COk h w cs ∧ ok c h w cs))
theorem BadC.mono {K : PySem.W.Frag} {H H' : Hp} {m : Int} {v : V} (e : Ex H H') (hb : BadC K H m v) : BadC K H' m v := by
  rcases hb with ⟨n, hk, hn⟩ | ⟨a, xs, ds, rfl, h1, h2, h3⟩
  · exact .inl ⟨n, hk.mono e, hn⟩
  · exact .inr ⟨a, xs, ds, rfl, ex_l e h1, DpAll.mono e h2, h3⟩
theorem BadG.mono {K : PySem.W.Frag} {H H' : Hp} {v : V} (e : Ex H H') (hb : BadG K H v) : BadG K H' v := by
  rcases hb with ⟨n, hk, hn⟩ | ⟨a, xs, rfl, h1, h2, h3, h4⟩
  · exact .inl ⟨n, hk.mono e, hn⟩
  · exact .inr ⟨a, xs, rfl, ex_t e h1, h2, fun x hx => (h3 x hx).imp fun n z => z.mono e, h4⟩
/-- the two checks ahead of a door's body -/
theorem q_checks {K : PySem.W.Frag} {C : Ad} {σ : L2.St} {H : Hp} {E : XK} {D : Ends} {tz : TS} {v u : V} {Q : VK} {ok : Addr → Nat → Nat → List Int → Prop} (h0 : σ[0]? = some (some v)) (h1 : σ[1]? = some (some u)) (h : DoorGC K C v u H Q E ok)
    (k : ∀ g h w c cs H1, v = .ref g → u = .ref c → Ex H H1 → SqT K H1 g [.int ((h : Nat) : Int), .int ((w : Nat) : Int)] → GOk h w → SqL K H1 c (cs.map V.int) → COk h w cs → ok c h w cs → tz D σ H1) :
    tSeq (tDrop (tCall (sp_check_grid K C) [] E (tCons (tVar 0) tNil))) (tSeq (tDrop (tCall (sp_check_cells K C) [] E (tCons (tVar 0) (tCons (tVar 1) tNil)))) tz) D σ H := by
  rcases h with ⟨hb, q⟩ | ⟨g, h, w, rfl, hs, gk, h⟩
  · exact ⟨v, h0, v, rfl, .inr ⟨hb, q⟩⟩
  · refine q_drop (ev_check_grid (ea_cons (ev_var h0) ea_nil) hs gk) fun H1 e1 => ?_
    rcases h with ⟨hb, q⟩ | ⟨c, cs, rfl, hc, ck, hok⟩
    · exact ⟨_, h0, u, h1, g, h, w, u, rfl, ex_t e1 hs, gk, .inr ⟨hb.mono e1, fun H2 e2 => q H2 (e1.trans e2)⟩⟩
    · refine q_drop (ev_check_cells (ea_cons (ev_var h0) (ea_cons (ev_var h1) ea_nil)) (ex_t e1 hs) gk (ex_l e1 hc) ck) fun H2 e2 => ?_
      exact k g h w c cs H2 rfl rfl (e1.trans e2) (ex_t (e1.trans e2) hs) gk (ex_l (e1.trans e2) hc) ck hok
def sp_judged (K : PySem.W.Frag) (C : Ad) : Sp := fun vs H Q E => ∃ v u, vs = [v, u] ∧ DoorGC K C v u H Q E fun _ h w cs => RetP (NewAns C (judgedM h w cs)) H Q
theorem ep_judged {K : PySem.W.Frag} {C : Ad} {σ : L2.St} {H : Hp} {ta tb : TE} {E : XK} {h w : Nat} {cs : List Int} (ha : EvST K ta σ H [.int (h : Int), .int (w : Int)]) (gk : GOk h w) (hc : EvS K tb σ H (cs.map V.int)) (ck : COk h w cs) :
    EvP (tCall (sp_judged K C) [] E (tCons ta (tCons tb tNil))) σ H (NewAns C (judgedM h w cs)) := fun H1 e Q q =>
  ha H1 e _ fun g H2 e2 hg => hc H2 (e.trans e2) _ fun c H3 e3 hc3 => ⟨_, _, rfl, .inr ⟨g, h, w, rfl, ex_t e3 hg, gk, .inr ⟨c, cs, rfl, hc3, ck, fun v H4 e4 z => q v H4 ((e2.trans e3).trans e4) (z.back (e2.trans e3))⟩⟩⟩
def t_judged (K : PySem.W.Frag) (C : Ad) (E : XK) : TS := (tSeq (tDrop (tCall (sp_check_grid K C) [] E (tCons (tVar 0) tNil)))
      (tSeq (tDrop (tCall (sp_check_cells K C) [] E (tCons (tVar 0) (tCons (tVar 1) tNil))))
      (tSeq (tAsg (tCall (sp_spread K) [] E0 (tCons (tVar 0) (tCons (tOp (rIxL K) (tVar 1) (tC (.int 0))) (tCons (tVar 1) tNil)))) (gName 2))
      (tSeq (tIfS (tTest (tOp oLt (tCB (rLenS K) (tCons (tVar 2) tNil)) (tCB (rLenS K) (tCons (tVar 1) tNil)))) (tRet (tMake C.cSplit (sp_Split_init K C) [] E0 (tCons (tOp (rIxL K) (tVar 1) (tC (.int 0))) (tCons (tOp (rIxL K) (tLc (iList K (tVar 1)) (gName 4) (tTest (tOp (rIn K true) (tVar 4) (tVar 2))) (tVar 4) [4]) (tC (.int 0))) tNil)))) tNext)
      (tSeq (tAsg (tCall (sp_first_inner K) [] E0 (tCons (tVar 0) (tCons (tVar 1) tNil))) (gName 3))
      (tRet (tIf (tTest (tOp rIsN (tVar 3) (tC .non))) (tBare C.cRing) (tMake C.cHole (sp_Hole_init K C) [] E0 (tCons (tVar 3) tNil)))))))))
theorem rising_nodup {cs : List Int} (h : Rising cs) : cs.Nodup := List.Pairwise.imp (fun a => by omega) h
theorem headD_of {α : Type} {l : List α} (d : α) (h : l ≠ []) : l[0]? = some (l.headD d) := by
  cases l with
  | nil => exact absurd rfl h
  | cons a r => rfl
theorem ep_if {σ : L2.St} {H : Hp} {t : TT} {ta tb : TE} {b : Bool} {R : Hp → V → Hp → Prop} (hR : ∀ {H0 H1 v H2}, Ex H0 H1 → R H1 v H2 → R H0 v H2) (h : EvT t σ H b) (h1 : b = true → EvP ta σ H R) (h2 : b = false → EvP tb σ H R) : EvP (tIf t ta tb) σ H R := fun H1 e Q q => h H1 e _ fun H2 e2 => by
  cases b with
  | true =>
    show ta σ H2 Q
    exact h1 rfl H2 (e.trans e2) Q fun v H3 e3 z => q v H3 (e2.trans e3) (hR e2 z)
  | false =>
    show tb σ H2 Q
    exact h2 rfl H2 (e.trans e2) Q fun v H3 e3 z => q v H3 (e2.trans e3) (hR e2 z)
theorem pure_judged {K : PySem.W.Frag} {C : Ad} {vs : List V} {H : Hp} {Q : VK} {E : XK} {D : Ends} (hD : D.rt = Q) (h : sp_judged K C vs H Q E) : t_judged K C E D (start ["grid", "cells", "near", "inner", "cell"] vs) H := by
  obtain ⟨v, u, rfl, hd⟩ := h
  subst hD
  change t_judged K C E D [some v, some u, none, none, none] H
  refine q_checks rfl rfl hd fun g h w c cs H1 hv hu e1 hs gk hc ck q => ?_
  subst hv hu
  clear hd
  have cl := cok_len gk ck
  have it : Ev (tOp (rIxL K) (tVar 1) (tC (.int 0))) [some (.ref g), some (.ref c), none, none, none] H1 (.int (cs.headD 0)) := ev_ixS (es_of (ev_var rfl) hc) ev_c (at_first ck.1)
  refine q_asgL (i := 2) (el_spread (E := E0) (K := K) (ta := tCons (tVar 0) (tCons (tOp (rIxL K) (tVar 1) (tC (.int 0))) (tCons (tVar 1) tNil))) (ea_cons (ev_var rfl) (ea_cons it (ea_cons (ev_var rfl) ea_nil))) hs gk hc (by omega)) fun n H2 hn e2 h2 => ?_
  have hc2 := ex_l e2 hc
  have hs2 := ex_t e2 hs
  have so := spread_ok h (w := w) gk.2.2.1 (cs.headD 0) cs
  have jm : judgedM h w cs = if (spread h w (cs.headD 0) cs).length < cs.length then .split (cs.headD 0) ((cs.filter fun c => !decide (c ∈ spread h w (cs.headD 0) cs)).headD 0)
    else match firstInner h w cs with | none => .ring | some i => .hole (i : Int) := rfl
  generalize spread h w (cs.headD 0) cs = near at *
  have t := et_test (ev_op (r := oLt) (σ := [some (.ref g), some (.ref c), some (.ref n), none, none]) (H := H2) (ev_lenS (K := K) (ta := tVar 2) (es_of (ev_var rfl) (sq_of h2))) (ev_lenS (K := K) (ta := tVar 1) (es_of (ev_var rfl) hc2)) rv_I0)
  rw [List.length_map, List.length_map] at t
  refine q_when t (fun hb H3 e3 => ?_) (fun hb H3 e3 => ?_)
  · have hlt : near.length < cs.length := by have := of_decide_eq_true hb; omega
    rw [if_pos hlt] at jm
    have ne : (cs.filter fun c => !decide (c ∈ near)) ≠ [] := by
      intro z
      have all := List.filter_eq_nil_iff.mp z
      have : ∀ o ∈ cs, o ∈ near := fun o ho => by simpa using all o ho
      have := nodup_sub (rising_nodup ck.2.2) this
      omega
    have hc3 := ex_l e3 hc2
    have l := el_lcI (K := K) (σ := [some (.ref g), some (.ref c), some (.ref n), none, none]) (H := H3) (ns := cs) (tl := tVar 1) (t := tTest (tOp (rIn K true) (tVar 4) (tVar 2))) (te := tVar 4) (j := 4) (vs := [4]) (fun o => !decide (o ∈ near)) V.int (es_of (ev_var rfl) hc3) (by omega) (fun x => rfl)
      (fun n' H4 e4 _ => et_test (ev_notIn (ev_var rfl) (es_of (ev_var rfl) (sq_of (e4 _ _ (e3 _ _ h2)))))) (fun n' H4 e4 _ _ => ev_var rfl)
    refine s_retP (ep_Split (K := K) (C := C) (ea_cons (ev_ixS (es_of (ev_var rfl) hc3) ev_c (at_first ck.1)) (ea_cons (ev_ixS (es_new l) ev_c (at_first ne)) ea_nil))) fun v H4 e4 z => ?_
    refine q v H4 (((e1.trans e2).trans e3).trans e4) ?_
    rw [jm]
    exact NewI.back ((e1.trans e2).trans e3) z
  · have hlt : ¬ near.length < cs.length := by have := of_decide_eq_false hb; omega
    rw [if_neg hlt] at jm
    have hs3 := ex_t e3 hs2
    have hc3 := ex_l e3 hc2
    refine q_asg (i := 3) (ev_first_inner (K := K) (ea_cons (ev_var rfl) (ea_cons (ev_var rfl) ea_nil)) hs3 gk hc3) fun H4 e4 => ?_
    refine s_retP (R := NewAns C (judgedM h w cs)) (ep_if (b := (firstInner h w cs).isNone) (fun e z => z.back e) (et_is (et_test (ev_op (ev_var rfl) ev_c rv_isN)) (opt_is _)) (fun hb' => ?_) (fun hb' => ?_)) fun v H5 e5 z => q v H5 ((((e1.trans e2).trans e3).trans e4).trans e5) (z.back (((e1.trans e2).trans e3).trans e4))
    · cases hf : firstInner h w cs with
      | none =>
        rw [hf] at jm
        rw [jm]
        exact ep_bare
      | some i => rw [hf] at hb'; cases hb'
    · cases hf : firstInner h w cs with
      | none => rw [hf] at hb'; cases hb'
      | some i =>
        rw [hf] at jm
        rw [jm]
        exact ep_Hole (ea_cons (ev_var rfl) ea_nil)
/-! ### check_few, rings -/
def DoorF (K : PySem.W.Frag) (C : Ad) (v : V) (H : Hp) (E : XK) (ok : Addr → Nat → Nat → Prop) : Prop :=
  (BadG K H v ∧ RetE C.cBadGrid H E) ∨ (∃ g h w, v = .ref g ∧ SqT K H g [.int ((h : Nat) : Int), .int ((w : Nat) : Int)] ∧ GOk h w ∧ ((9 < h * w ∧ RetE C.cBadGrid H E) ∨ (h * w ≤ 9 ∧ ok g h w)))
def sp_check_few (K : PySem.W.Frag) (C : Ad) : Sp := fun vs H Q E => ∃ v, vs = [v] ∧ DoorF K C v H E fun _ _ _ => RetV .non H Q
def t_check_few (K : PySem.W.Frag) (C : Ad) (E : XK) : TS := (tSeq (tDrop (tCall (sp_check_grid K C) [] E (tCons (tVar 0) tNil)))
      (tIfS (tTest (tOp oGt (tOp oMul (tOp (rIxT K) (tVar 0) (tC (.int 0))) (tOp (rIxT K) (tVar 0) (tC (.int 1)))) (tC (.int 9)))) (tRaise E (.ref C.cBadGrid)) tNext))
theorem pure_check_few {K : PySem.W.Frag} {C : Ad} {vs : List V} {H : Hp} {Q : VK} {E : XK} {D : Ends} (hD : D.nx = fun _ H' => Q .non H') (h : sp_check_few K C vs H Q E) : t_check_few K C E D (start ["grid"] vs) H := by
  obtain ⟨v, rfl, h⟩ := h
  change t_check_few K C E D [some v] H
  rcases h with ⟨hb, q⟩ | ⟨g, h, w, rfl, hs, gk, hk⟩
  · exact ⟨v, rfl, v, rfl, .inr ⟨hb, q⟩⟩
  · refine q_drop (ev_check_grid (ea_cons (ev_var rfl) ea_nil) hs gk) fun H1 e1 => ?_
    have gb := gk
    obtain ⟨g1, g2, g3, g4⟩ := gb
    have hs1 := ex_t e1 hs
    have cast : ((h * w : Nat) : Int) = (h : Int) * w := Int.natCast_mul h w
    have t : EvT (tTest (tOp oGt (tOp oMul (tOp (rIxT K) (tVar 0) (tC (.int 0))) (tOp (rIxT K) (tVar 0) (tC (.int 1)))) (tC (.int 9)))) [some (.ref g)] H1 (decide ((9 : Int) < (h : Int) * w)) := by walk_at "et"
    rcases hk with ⟨hb, q⟩ | ⟨hb, q⟩
    · exact s_when t (fun _ H2 e2 => q H2 (e1.trans e2)) (fun z => by have := of_decide_eq_false z; omega)
    · refine s_when t (fun z => by have := of_decide_eq_true z; omega) (fun _ H2 e2 => ?_)
      rw [hD]
      exact q H2 (e1.trans e2)
def sp_rings (K : PySem.W.Frag) (C : Ad) : Sp := fun vs H Q E => ∃ v, vs = [v] ∧ DoorF K C v H E fun _ h w => RetP (fun H1 v H2 => NewLL H1 v H2 (ints2 (allRings h w))) H Q
theorem ep_rings {K : PySem.W.Frag} {C : Ad} {σ : L2.St} {H : Hp} {ta : TE} {E : XK} {h w : Nat} (ha : EvST K ta σ H [.int (h : Int), .int (w : Int)]) (gk : GOk h w) (hm : h * w ≤ 9) : EvP (tCall (sp_rings K C) [] E (tCons ta tNil)) σ H (fun H1 v H2 => NewLL H1 v H2 (ints2 (allRings h w))) := fun H1 e Q q =>
  ha H1 e _ fun g H2 e2 hg => ⟨_, rfl, .inr ⟨g, h, w, rfl, hg, gk, .inr ⟨hm, fun v H3 e3 z => q v H3 (e2.trans e3) (z.back e2)⟩⟩⟩
def t_rings (K : PySem.W.Frag) (C : Ad) (E : XK) : TS := (tSeq (tDrop (tCall (sp_check_few K C) [] E (tCons (tVar 0) tNil)))
      (tRet (tCall (sp_all_rings K) [] E0 (tCons (tVar 0) tNil))))
theorem pure_rings {K : PySem.W.Frag} {C : Ad} {vs : List V} {H : Hp} {Q : VK} {E : XK} {D : Ends} (hD : D.rt = Q) (h : sp_rings K C vs H Q E) : t_rings K C E D (start ["grid"] vs) H := by
  obtain ⟨v, rfl, h⟩ := h
  subst hD
  change t_rings K C E D [some v] H
  rcases h with ⟨hb, q⟩ | ⟨g, h, w, rfl, hs, gk, ⟨hb, q⟩ | ⟨hm, q⟩⟩
  · exact ⟨v, rfl, v, rfl, .inl ⟨hb, q⟩⟩
  · exact ⟨_, rfl, _, rfl, .inr ⟨g, h, w, rfl, hs, gk, .inl ⟨hb, q⟩⟩⟩
  · refine ⟨_, rfl, _, rfl, .inr ⟨g, h, w, rfl, hs, gk, .inr ⟨hm, fun H1 e1 => ?_⟩⟩⟩
    exact s_retP (ep_all_rings (K := K) (est_of (ev_var rfl) (ex_t e1 hs)) gk hm) fun v H2 e2 z => q v H2 (e1.trans e2) (z.back e1)
/-! ### check_clues -/
/-- what stands in a list of rows -/
inductive Row
  | other
  | row (ys : List V)
def RowIs (K : PySem.W.Frag) (H : Hp) (x : V) : Row → Prop
  | .other => ∃ n, Known K H x n ∧ n ≠ "list"
  | .row ys => ∃ r, x = .ref r ∧ SqL K H r ys ∧ ys.length ≤ 1000 ∧ ∀ y ∈ ys, ∃ n, Known K H y n
theorem RowIs.mono {K : PySem.W.Frag} {H H' : Hp} {x : V} {r : Row} (e : Ex H H') (h : RowIs K H x r) : RowIs K H' x r := by
  cases r with
  | other => exact h.imp fun n z => ⟨z.1.mono e, z.2⟩
  | row ys =>
    obtain ⟨r, rfl, h1, h2, h3⟩ := h
    exact ⟨r, rfl, ex_l e h1, h2, fun y hy => (h3 y hy).imp fun n z => z.mono e⟩
def Row.isRow : Row → Bool
  | .other => false
  | .row _ => true
def Row.len : Row → Nat
  | .other => 0
  | .row ys => ys.length
def Row.fine : Row → Bool
  | .other => false
  | .row ys => ys.all (inRange (-1) 4)
def cluesChk (rows : List Row) : Bool :=
  ((decide (1 ≤ rows.length) && decide (rows.length ≤ 6)) && rows.all Row.isRow) &&
  (((decide (1 ≤ (rows.headD .other).len) && decide ((rows.headD .other).len ≤ 6)) && (decide (rows.length * (rows.headD .other).len ≤ 9) && rows.all fun r => decide (r.len = (rows.headD .other).len))) && rows.all Row.fine)
def DoorC (K : PySem.W.Frag) (C : Ad) (v : V) (H : Hp) (E : XK) (ok : Addr → List Row → Prop) : Prop :=
  ((∃ n, Known K H v n ∧ n ≠ "list") ∧ RetE C.cBadClues H E) ∨ ∃ a xs rows, v = .ref a ∧ SqL K H a xs ∧ xs.length ≤ 1000 ∧ Paired (RowIs K H) xs rows ∧ ((cluesChk rows = false ∧ RetE C.cBadClues H E) ∨ (cluesChk rows = true ∧ ok a rows))
def sp_check_clues (K : PySem.W.Frag) (C : Ad) : Sp := fun vs H Q E => ∃ v, vs = [v] ∧ DoorC K C v H E fun _ _ => RetV .non H Q
def t_check_clues (K : PySem.W.Frag) (C : Ad) (E : XK) : TS := (tSeq (tIfS (tOr (tNot (tB (tCB (rIsi K) (tCons (tVar 0) (tCons (tC (.ty "list")) tNil))))) (tOr (tNot (tTest (tChain oLe oLe (tC (.int 1)) (tCB (rLenS K) (tCons (tVar 0) tNil)) (tC (.int 6))))) (tNot (tB (tCB (rAll K) (tCons (tLc (iList K (tVar 0)) (gName 2) tYes (tCB (rIsi K) (tCons (tVar 2) (tCons (tC (.ty "list")) tNil))) [2]) tNil)))))) (tRaise E (.ref C.cBadClues)) tNext)
      (tSeq (tAsg (tCB (rLenS K) (tCons (tOp (rIxL K) (tVar 0) (tC (.int 0))) tNil)) (gName 1))
      (tSeq (tIfS (tOr (tNot (tTest (tChain oLe oLe (tC (.int 1)) (tVar 1) (tC (.int 6))))) (tOr (tTest (tOp oGt (tOp oMul (tCB (rLenS K) (tCons (tVar 0) tNil)) (tVar 1)) (tC (.int 9)))) (tNot (tB (tCB (rAll K) (tCons (tLc (iList K (tVar 0)) (gName 2) tYes (tOp rEq (tCB (rLenS K) (tCons (tVar 2) tNil)) (tVar 1)) [2]) tNil)))))) (tRaise E (.ref C.cBadClues)) tNext)
      (tIfS (tNot (tB (tCB (rAll K) (tCons (tLc (iList K (tVar 0)) (gName 2) tYes (tCB (rAll K) (tCons (tLc (iList K (tVar 2)) (gName 3) tYes (tAndV (tCall (sp_is_whole K) [] E0 (tCons (tVar 3) tNil)) (tChain oLe oLe (tUn oNeg (tC (.int 1))) (tVar 3) (tC (.int 4)))) [3]) tNil)) [2]) tNil)))) (tRaise E (.ref C.cBadClues)) tNext))))
/-- all([t for row in clues]), t told by the row -/
theorem ev_allRows {K : PySem.W.Frag} {σ : L2.St} {H : Hp} {te tl : TE} {a : Addr} {xs : List V} {rows : List Row} {j : Nat} {vs : List Nat} (f : Row → Bool) (h : Ev tl σ H (.ref a)) (hs : SqL K H a xs) (hl : xs.length ≤ 1000) (hp : Paired (RowIs K H) xs rows) (hw : ∀ x, wipe ((wipe σ vs).set j (some x)) vs = wipe σ vs)
    (ht : ∀ (x : V) (r : Row) H1, Ex H H1 → r ∈ rows → RowIs K H1 x r → Ev te ((wipe σ vs).set j (some x)) H1 (.bl (f r))) : Ev (tCB (rAll K) (tCons (tLc (iList K tl) (gName j) tYes te vs) tNil)) σ H (.bl (rows.all f)) := by
  have w := el_lcL (K := K) (t := tYes) (te := te) (j := j) (vs := vs) (fun _ => true) (fun i => V.bl (f (rows.getD i .other))) h hs (by omega) hw (fun _ _ _ _ _ => et_yes) (fun i x H1 e1 hx _ => by
    obtain ⟨r, hr, hf⟩ := paired_get hp hx
    have e : rows.getD i .other = r := by rw [List.getD_eq_getElem?_getD, hr]; rfl
    show Ev te _ H1 (V.bl (f (rows.getD i .other)))
    rw [e]
    exact ht x r H1 e1 (List.mem_of_getElem? hr) (hf.mono e1))
  have e : given xs.length (fun _ => true) (fun i => V.bl (f (rows.getD i .other))) = (rows.map f).map V.bl := by
    unfold given
    rw [filter_yes, Paired.length hp, List.map_map]
    refine List.ext_getElem? fun i => ?_
    rw [List.getElem?_map, List.getElem?_map]
    by_cases hi : i < rows.length
    · rw [List.getElem?_range hi, List.getElem?_eq_getElem hi]
      simp [List.getD_eq_getElem?_getD, hi]
    · rw [List.getElem?_eq_none (by rw [List.length_range]; omega), List.getElem?_eq_none (by omega)]
      rfl
  rw [e] at w
  refine ev_is (ev_allS (K := K) (es_new (K := K) w)) ?_
  rw [List.all_map]
  rfl
theorem row_list {K : PySem.W.Frag} {H : Hp} {x : V} {r : Row} (h : RowIs K H x r) : ∃ n, Known K H x n ∧ (n == "list") = r.isRow := by
  cases r with
  | other =>
    obtain ⟨n, hk, hn⟩ := h
    exact ⟨n, hk, by simpa [Row.isRow] using hn⟩
  | row ys =>
    obtain ⟨r, rfl, h1, _⟩ := h
    exact ⟨"list", ⟨ty_list h1, by decide⟩, rfl⟩
theorem row_of {K : PySem.W.Frag} {H : Hp} {x : V} {r : Row} (h : RowIs K H x r) (hr : r.isRow = true) : ∃ q ys, r = .row ys ∧ x = .ref q ∧ SqL K H q ys ∧ ys.length ≤ 1000 ∧ ∀ y ∈ ys, ∃ n, Known K H y n := by
  cases r with
  | other => cases hr
  | row ys =>
    obtain ⟨q, rfl, h1, h2, h3⟩ := h
    exact ⟨q, ys, rfl, rfl, h1, h2, h3⟩
theorem ev_fine {K : PySem.W.Frag} {σ : L2.St} {H : Hp} {q : Addr} {ys : List V} {i j : Nat} {vs : List Nat} (hi : σ[i]? = some (some (.ref q))) (hs : SqL K H q ys) (hl : ys.length ≤ 1000) (hk : ∀ y ∈ ys, ∃ n, Known K H y n) (hw : ∀ x, wipe ((wipe σ vs).set j (some x)) vs = wipe σ vs) (hj : ∀ x : V, ((wipe σ vs).set j (some x))[j]? = some (some x)) :
    Ev (tCB (rAll K) (tCons (tLc (iList K (tVar i)) (gName j) tYes (tAndV (tCall (sp_is_whole K) [] E0 (tCons (tVar j) tNil)) (tChain oLe oLe (tUn oNeg (tC (.int 1))) (tVar j) (tC (.int 4)))) vs) tNil)) σ H (.bl (ys.all (inRange (-1) 4))) := by
  have e : (((ys.filter fun _ => true).map fun x => V.bl (inRange (-1) 4 x))) = (ys.map (inRange (-1) 4)).map V.bl := by
    rw [filter_yes, List.map_map]
    rfl
  have w := el_lc (K := K) (σ := σ) (H := H) (xs := ys) (tl := tVar i) (t := tYes) (te := tAndV (tCall (sp_is_whole K) [] E0 (tCons (tVar j) tNil)) (tChain oLe oLe (tUn oNeg (tC (.int 1))) (tVar j) (tC (.int 4)))) (j := j) (vs := vs) (fun _ => true) (fun x => V.bl (inRange (-1) 4 x)) (es_of (ev_var hi) hs) (by omega) hw (fun x H1 e1 hx => et_yes) (fun x H1 e1 hx _ => by
    obtain ⟨n, hn⟩ := hk x hx
    have r : inRange (-1) 4 x = (isInt x && inRange (-1) 4 x) := by cases x <;> rfl
    rw [r]
    refine ev_andV (ev_is_whole (ea_cons (ev_var (hj _)) ea_nil) (hn.mono e1)) (fun hi => ?_)
    obtain ⟨m, rfl⟩ := isInt_of hi
    exact ev_chain (ev_un ev_c ru_neg) (ev_var (hj _)) rv_I0 (fun _ => ev_c) (fun _ => rv_I0))
  rw [e] at w
  have z := ev_allS (K := K) (es_new (K := K) w)
  rw [List.all_map] at z
  exact z
theorem pure_check_clues {K : PySem.W.Frag} {C : Ad} {vs : List V} {H : Hp} {Q : VK} {E : XK} {D : Ends} (hD : D.nx = fun _ H' => Q .non H') (h : sp_check_clues K C vs H Q E) : t_check_clues K C E D (start ["clues", "wide", "row", "clue"] vs) H := by
  obtain ⟨v, rfl, h⟩ := h
  change t_check_clues K C E D [some v, none, none, none] H
  rcases h with ⟨⟨n, hk, hn⟩, q⟩ | ⟨a, xs, rows, rfl, hs, hl, hp, h⟩
  · have e : (n == "list") = false := by simpa using hn
    refine q_when (b := true) (et_is (et_or (b := true) (et_not (et_B (ev_isiList (ev_var rfl) hk))) (fun z => ?_)) (by rw [e]; rfl)) (fun _ H1 e1 => q H1 e1) (fun z => nomatch z)
    rw [e] at z
    cases z
  · have pl := Paired.length hp
    have t1 := et_or (et_not (et_B (ev_isiList (K := K) (σ := [some (.ref a), none, none, none]) (H := H) (ta := tVar 0) (ev_var rfl) ⟨ty_list hs, by decide⟩))) (fun _ => et_or (et_not (et_test (ev_chain (r := oLe) (r' := oLe) (x := .int 1) (z := .int 6) ev_c (ev_lenS (K := K) (ta := tVar 0) (es_of (ev_var rfl) hs)) rv_I0 (fun _ => ev_c) (fun _ => rv_I0)))) (fun _ => et_not (et_B (ev_allRows (K := K) (j := 2) (vs := [2]) (te := tCB (rIsi K) (tCons (tVar 2) (tCons (tC (.ty "list")) tNil))) Row.isRow (ev_var (i := 0) rfl) hs hl hp (fun _ => rfl) (fun x r H1 e1 hr hx => by
      obtain ⟨n, hk, hn⟩ := row_list hx
      exact ev_is (ev_isiList (ev_var rfl) hk) (by rw [hn]))))))
    have hbad : cluesChk rows = false → RetE C.cBadClues H E := fun z => by
      rcases h with ⟨_, q⟩ | ⟨hc, _⟩
      · exact q
      · rw [hc] at z; cases z
    refine q_when t1 (fun hb H1 e1 => hbad ?_ H1 e1) (fun hb H1 e1 => ?_)
    · have hb' : ((decide (1 ≤ rows.length) && decide (rows.length ≤ 6)) && rows.all Row.isRow) = false := by
        rw [pl] at hb
        simp only [beq_self_eq_true, Bool.not_true, Bool.false_or, Bool.or_eq_true, Bool.not_eq_true'] at hb
        rcases hb with z | z
        · have : (decide (1 ≤ rows.length) && decide (rows.length ≤ 6)) = false := by
            rw [Bool.and_eq_false_iff, decide_eq_false_iff_not, decide_eq_false_iff_not] at z ⊢
            omega
          rw [this, Bool.false_and]
        · rw [z, Bool.and_false]
      unfold cluesChk
      rw [hb', Bool.false_and]
    · have hb' : ((decide (1 ≤ rows.length) && decide (rows.length ≤ 6)) && rows.all Row.isRow) = true := by
        rw [pl] at hb
        simp only [beq_self_eq_true, Bool.not_true, Bool.false_or, Bool.or_eq_false_iff, Bool.not_eq_false'] at hb
        obtain ⟨z, z2⟩ := hb
        rw [z2, Bool.and_true]
        rw [Bool.and_eq_true, decide_eq_true_eq, decide_eq_true_eq] at z ⊢
        omega
      have cc : cluesChk rows = (((decide (1 ≤ (rows.headD .other).len) && decide ((rows.headD .other).len ≤ 6)) && (decide (rows.length * (rows.headD .other).len ≤ 9) && rows.all fun r => decide (r.len = (rows.headD .other).len))) && rows.all Row.fine) := by
        unfold cluesChk
        rw [hb', Bool.true_and]
      have hrows : ∀ r ∈ rows, r.isRow = true := List.all_eq_true.mp (Bool.and_eq_true _ _ ▸ hb').2
      have hlen : 1 ≤ rows.length ∧ rows.length ≤ 6 := by
        have := (Bool.and_eq_true _ _ ▸ hb').1
        rw [Bool.and_eq_true, decide_eq_true_eq, decide_eq_true_eq] at this
        exact this
      have hs1 := ex_l e1 hs
      have hp1 : Paired (RowIs K H1) xs rows := Paired.mapP hp fun x r z => z.mono e1
      have w0 : Ev (tCB (rLenS K) (tCons (tOp (rIxL K) (tVar 0) (tC (.int 0))) tNil)) [some (.ref a), none, none, none] H1 (.int ((rows.headD .other).len : Int)) := by
        cases hp1 with
        | nil => simp at hlen
        | cons h3 h4 =>
          obtain ⟨q, ys, rfl, rfl, h5, _⟩ := row_of h3 (hrows _ List.mem_cons_self)
          exact ev_lenS (K := K) (es_of (ev_ixS (es_of (ev_var rfl) hs1) ev_c (atI_nat (j := 0) rfl)) h5)
      refine q_asg (i := 1) w0 fun H2 e2 => ?_
      have hs2 := ex_l e2 hs1
      have hp2 : Paired (RowIs K H2) xs rows := Paired.mapP hp1 fun x r z => z.mono e2
      have wl : (rows.headD .other).len ≤ 1000 := by
        cases hp1 with
        | nil => simp at hlen
        | cons h3 h4 =>
          obtain ⟨q, ys, rfl, rfl, h5, h6, _⟩ := row_of h3 (hrows _ List.mem_cons_self)
          exact h6
      generalize (rows.headD .other).len = wd at *
      have t2 := et_or (et_not (et_test (ev_chain (r := oLe) (r' := oLe) (σ := [some (.ref a), some (.int (wd : Int)), none, none]) (H := H2) (x := .int 1) (z := .int 6) ev_c (ev_var (i := 1) rfl) rv_I0 (fun _ => ev_c) (fun _ => rv_I0)))) (fun _ => et_or (et_test (ev_op (r := oGt) (y := .int 9) (ev_op (r := oMul) (y := .int (wd : Int)) (ev_lenS (K := K) (ta := tVar 0) (es_of (ev_var rfl) hs2)) (ev_var (i := 1) rfl) (rv_I (.inl ⟨by omega, by omega⟩))) ev_c rv_I0)) (fun _ => et_not (et_B (ev_allRows (K := K) (j := 2) (vs := [2]) (te := tOp rEq (tCB (rLenS K) (tCons (tVar 2) tNil)) (tVar 1)) (fun r => decide (r.len = wd)) (ev_var (i := 0) rfl) hs2 hl hp2 (fun _ => rfl) (fun x r H3 e3 hr hx => by
        obtain ⟨q, ys, rfl, rfl, h5, _⟩ := row_of hx (hrows r hr)
        refine ev_is (ev_op (x := .int (ys.length : Int)) (y := .int (wd : Int)) (ev_lenS (K := K) (es_of (ev_var rfl) h5)) (ev_var rfl) (rv_eq rfl)) ?_
        show V.bl (decide (V.int (ys.length : Int) = V.int (wd : Int))) = V.bl (decide (ys.length = wd))
        congr 1
        rw [Bool.eq_iff_iff, decide_eq_true_eq, decide_eq_true_eq, V.int.injEq]
        omega)))))
      have cast : ((xs.length : Int) * (wd : Int)) = ((rows.length * wd : Nat) : Int) := by rw [pl, Int.natCast_mul]
      refine q_when t2 (fun hb2 H3 e3 => hbad ?_ H3 ((e1.trans e2).trans e3)) (fun hb2 H3 e3 => ?_)
      · rw [cc]
        rw [cast] at hb2
        have : ((decide (1 ≤ wd) && decide (wd ≤ 6)) && (decide (rows.length * wd ≤ 9) && rows.all fun r => decide (r.len = wd))) = false := by
          simp only [Bool.or_eq_true, Bool.not_eq_true', decide_eq_true_eq] at hb2
          rcases hb2 with z | z | z
          · have : (decide (1 ≤ wd) && decide (wd ≤ 6)) = false := by
              rw [Bool.and_eq_false_iff, decide_eq_false_iff_not, decide_eq_false_iff_not] at z ⊢
              omega
            rw [this, Bool.false_and]
          · have : decide (rows.length * wd ≤ 9) = false := decide_eq_false (by omega)
            rw [this, Bool.false_and, Bool.and_false]
          · rw [z, Bool.and_false, Bool.and_false]
        rw [this, Bool.false_and]
      · have c2 : ((decide (1 ≤ wd) && decide (wd ≤ 6)) && (decide (rows.length * wd ≤ 9) && rows.all fun r => decide (r.len = wd))) = true := by
          rw [cast] at hb2
          simp only [Bool.or_eq_false_iff, Bool.not_eq_false', decide_eq_false_iff_not] at hb2
          obtain ⟨z1, z2, z3⟩ := hb2
          rw [Bool.and_eq_true, decide_eq_true_eq, decide_eq_true_eq] at z1
          rw [z3, Bool.and_true, Bool.and_eq_true, Bool.and_eq_true, decide_eq_true_eq, decide_eq_true_eq, decide_eq_true_eq]
          omega
        rw [c2, Bool.true_and] at cc
        have hs3 := ex_l e3 hs2
        have hp3 : Paired (RowIs K H3) xs rows := Paired.mapP hp2 fun x r z => z.mono e3
        have t3 := et_not (et_B (ev_allRows (K := K) (σ := [some (.ref a), some (.int (wd : Int)), none, none]) (j := 2) (vs := [2]) (te := tCB (rAll K) (tCons (tLc (iList K (tVar 2)) (gName 3) tYes (tAndV (tCall (sp_is_whole K) [] E0 (tCons (tVar 3) tNil)) (tChain oLe oLe (tUn oNeg (tC (.int 1))) (tVar 3) (tC (.int 4)))) [3]) tNil)) Row.fine (ev_var (i := 0) rfl) hs3 hl hp3 (fun _ => rfl) (fun x r H4 e4 hr hx => by
          obtain ⟨q, ys, rfl, rfl, h5, h6, h7⟩ := row_of hx (hrows r hr)
          exact ev_fine rfl h5 h6 h7 (fun _ => rfl) (fun _ => rfl))))
        refine s_when t3 (fun hb3 H4 e4 => hbad ?_ H4 (((e1.trans e2).trans e3).trans e4)) (fun hb3 H4 e4 => ?_)
        · rw [cc]
          simpa using hb3
        · rw [hD]
          rcases h with ⟨hc, _⟩ | ⟨_, q⟩
          · rw [cc] at hc
            rw [hc] at hb3
            cases hb3
          · exact q H4 (((e1.trans e2).trans e3).trans e4)

/-! ### fitting, told -/
def rowsOf (nss : List (List Int)) : List Row := nss.map fun ns => .row (ns.map V.int)
def cluesB (nss : List (List Int)) : Bool :=
  ((decide (1 ≤ nss.length) && decide (nss.length ≤ 6)) && ((decide (1 ≤ (nss.headD []).length) && decide ((nss.headD []).length ≤ 6)) && decide (nss.length * (nss.headD []).length ≤ 9))) &&
  ((nss.all fun ns => decide (ns.length = (nss.headD []).length)) && nss.all fun ns => ns.all fun n => decide (-1 ≤ n) && decide (n ≤ 4))
theorem rowsOf_head (nss : List (List Int)) : ((rowsOf nss).headD .other).len = (nss.headD []).length := by
  cases nss with
  | nil => rfl
  | cons a r => exact List.length_map ..
theorem rowsOf_chk (nss : List (List Int)) (h : cluesB nss = true) : cluesChk (rowsOf nss) = true := by
  unfold cluesB at h
  simp only [Bool.and_eq_true, List.all_eq_true, decide_eq_true_eq] at h
  obtain ⟨⟨h1, h2, h3⟩, h4, h5⟩ := h
  unfold cluesChk
  rw [rowsOf_head]
  have ln : (rowsOf nss).length = nss.length := List.length_map ..
  simp only [Bool.and_eq_true, List.all_eq_true, decide_eq_true_eq, ln]
  have mem : ∀ r ∈ rowsOf nss, ∃ ns ∈ nss, r = .row (ns.map V.int) := fun r hr => by
    obtain ⟨ns, h, e⟩ := List.mem_map.mp hr
    exact ⟨ns, h, e.symm⟩
  refine ⟨⟨h1, fun r hr => ?_⟩, ⟨h2, h3, fun r hr => ?_⟩, fun r hr => ?_⟩
  · obtain ⟨ns, _, rfl⟩ := mem r hr
    rfl
  · obtain ⟨ns, hn, rfl⟩ := mem r hr
    rw [← h4 ns hn]
    exact List.length_map ..
  · obtain ⟨ns, hn, rfl⟩ := mem r hr
    show (ns.map V.int).all (inRange (-1) 4) = true
    rw [List.all_map, List.all_eq_true]
    intro x hx
    have := h5 ns hn x hx
    simp only [Function.comp, inRange, Bool.and_eq_true, decide_eq_true_eq]
    exact this
theorem cluesB_R {nss : List (List Int)} (h : cluesB nss = true) : CluesR nss := by
  unfold cluesB at h
  simp only [Bool.and_eq_true, List.all_eq_true, decide_eq_true_eq] at h
  obtain ⟨⟨h1, h2, h3⟩, h4, h5⟩ := h
  exact ⟨⟨h1.1, h1.2, h2.1, h2.2⟩, h3, fun ns hn => by rw [h4 ns hn]; omega⟩
theorem rowIs_of {K : PySem.W.Frag} {H : Hp} : ∀ {rs : List Addr} {nss : List (List Int)}, (∀ ns ∈ nss, ns.length ≤ 1000) → Paired (fun (r : Addr) (ns : List Int) => SqL K H r (ns.map V.int)) rs nss → Paired (RowIs K H) (rs.map V.ref) (rowsOf nss)
  | [], [], _, .nil => .nil
  | r :: rs, ns :: nss, hl, .cons h hs => .cons ⟨r, rfl, h, by rw [List.length_map]; exact hl ns List.mem_cons_self, fun y hy => by
      obtain ⟨m, _, rfl⟩ := List.mem_map.mp hy
      exact ⟨_, known_int m⟩⟩ (rowIs_of (fun m hm => hl m (List.mem_cons_of_mem _ hm)) hs)
theorem doorC_good {K : PySem.W.Frag} {C : Ad} {a : Addr} {H : Hp} {E : XK} {nss : List (List Int)} {ok : Addr → List Row → Prop} (hr : RowsAt K H a nss) (hb : cluesB nss = true) (h : ok a (rowsOf nss)) : DoorC K C (.ref a) H E ok := by
  have ck := cluesB_R hb
  obtain ⟨rs, h1, h2⟩ := hr
  have := ck.g.2.1
  exact .inr ⟨a, _, rowsOf nss, rfl, h1, by rw [List.length_map, Paired.length h2]; omega, rowIs_of ck.len h2, .inr ⟨rowsOf_chk nss hb, h⟩⟩
def OkC (K : PySem.W.Frag) (H : Hp) (R : List (List Int) → Prop) : Addr → List Row → Prop := fun a _ => ∃ nss, RowsAt K H a nss ∧ CluesR nss ∧ R nss
theorem DoorC.mono {K : PySem.W.Frag} {C : Ad} {v : V} {H : Hp} {E : XK} {ok ok' : Addr → List Row → Prop} (h : DoorC K C v H E ok) (hk : ∀ a rows, v = .ref a → ok a rows → ok' a rows) : DoorC K C v H E ok' := by
  rcases h with h | ⟨a, xs, rows, rfl, h1, h2, h3, h⟩
  · exact .inl h
  · exact .inr ⟨a, xs, rows, rfl, h1, h2, h3, h.imp id fun z => ⟨z.1, hk a rows rfl z.2⟩⟩
def sp_fitting (K : PySem.W.Frag) (C : Ad) : Sp := fun vs H Q E => ∃ v, vs = [v] ∧ DoorC K C v H E (OkC K H fun nss => RetP (fun H1 v H2 => NewLL H1 v H2 (ints2 (fittingOf nss))) H Q)
theorem ep_fitting {K : PySem.W.Frag} {C : Ad} {σ : L2.St} {H : Hp} {ta : TA} {E : XK} {a : Addr} {nss : List (List Int)} (ha : EvA ta σ H [.ref a]) (hr : RowsAt K H a nss) (hb : cluesB nss = true) : EvP (tCall (sp_fitting K C) [] E ta) σ H (fun H1 v H2 => NewLL H1 v H2 (ints2 (fittingOf nss))) := fun H1 e Q q =>
  ha H1 e _ fun H2 e2 => ⟨_, rfl, doorC_good (hr.mono (e.trans e2)) hb ⟨nss, hr.mono (e.trans e2), cluesB_R hb, fun v H3 e3 z => q v H3 (e2.trans e3) (z.back e2)⟩⟩
def t_fitting (K : PySem.W.Frag) (C : Ad) (E : XK) : TS := (tSeq (tDrop (tCall (sp_check_clues K C) [] E (tCons (tVar 0) tNil)))
      (tRet (tCall (sp_fitting_of K) [] E0 (tCons (tVar 0) tNil))))
theorem pure_fitting {K : PySem.W.Frag} {C : Ad} {vs : List V} {H : Hp} {Q : VK} {E : XK} {D : Ends} (hD : D.rt = Q) (h : sp_fitting K C vs H Q E) : t_fitting K C E D (start ["clues"] vs) H := by
  obtain ⟨v, rfl, h⟩ := h
  subst hD
  change t_fitting K C E D [some v] H
  refine ⟨v, rfl, v, rfl, h.mono fun a rows hv hk H1 e1 => ?_⟩
  obtain ⟨nss, hr, ck, q⟩ := hk
  subst hv
  exact s_retP (ep_fitting_of (K := K) (ea_cons (ev_var rfl) ea_nil) (hr.mono e1) ck) fun v H2 e2 z => q v H2 (e1.trans e2) (z.back e1)
inductive Tld
  | never
  | one (a : List Int)
  | two (a b : List Int)
deriving DecidableEq
def toldM (nss : List (List Int)) : Tld :=
  match fittingOf nss with
  | [] => .never
  | [a] => .one a
  | a :: b :: _ => .two a b
def NewTold (C : Ad) : Tld → Hp → V → Hp → Prop
  | .never => NewI C.cNever []
  | .one a => NewOne C (a.map V.int)
  | .two a b => NewTwo C (a.map V.int) (b.map V.int)
theorem NewTold.back {C : Ad} {a : Tld} {H0 H1 H2 : Hp} {v : V} (e : Ex H0 H1) (h : NewTold C a H1 v H2) : NewTold C a H0 v H2 := by
  cases a with
  | never => exact NewI.back e h
  | one a =>
    obtain ⟨p, dx, l, rfl, hp, hl, h1, h2⟩ := h
    exact ⟨p, dx, l, rfl, fresh_back e hp, fresh_back e hl, h1, h2⟩
  | two a b =>
    obtain ⟨p, dx, l, m, rfl, hp, hl, hm, lm, h1, h2, h3⟩ := h
    exact ⟨p, dx, l, m, rfl, fresh_back e hp, fresh_back e hl, fresh_back e hm, lm, h1, h2, h3⟩
def sp_told (K : PySem.W.Frag) (C : Ad) : Sp := fun vs H Q E => ∃ v, vs = [v] ∧ DoorC K C v H E (OkC K H fun nss => RetP (NewTold C (toldM nss)) H Q)
theorem ep_told {K : PySem.W.Frag} {C : Ad} {σ : L2.St} {H : Hp} {ta : TA} {E : XK} {a : Addr} {nss : List (List Int)} (ha : EvA ta σ H [.ref a]) (hr : RowsAt K H a nss) (hb : cluesB nss = true) : EvP (tCall (sp_told K C) [] E ta) σ H (NewTold C (toldM nss)) := fun H1 e Q q =>
  ha H1 e _ fun H2 e2 => ⟨_, rfl, doorC_good (hr.mono (e.trans e2)) hb ⟨nss, hr.mono (e.trans e2), cluesB_R hb, fun v H3 e3 z => q v H3 (e2.trans e3) (z.back e2)⟩⟩
def t_told (K : PySem.W.Frag) (C : Ad) (E : XK) : TS := (tSeq (tDrop (tCall (sp_check_clues K C) [] E (tCons (tVar 0) tNil)))
      (tSeq (tAsg (tCall (sp_fitting_of K) [] E0 (tCons (tVar 0) tNil)) (gName 1))
      (tSeq (tIfS (tTest (tOp (rEqD K) (tVar 1) (tLst tNil))) (tRet (tBare C.cNever)) tNext)
      (tRet (tIf (tTest (tOp rEq (tCB (rLenS K) (tCons (tVar 1) tNil)) (tC (.int 1)))) (tMake C.cOne (sp_One_init K C) [] E0 (tCons (tOp (rIxL K) (tVar 1) (tC (.int 0))) tNil)) (tMake C.cTwo (sp_Two_init K C) [] E0 (tCons (tOp (rIxL K) (tVar 1) (tC (.int 0))) (tCons (tOp (rIxL K) (tVar 1) (tC (.int 1))) tNil))))))))
theorem pure_told {K : PySem.W.Frag} {C : Ad} {vs : List V} {H : Hp} {Q : VK} {E : XK} {D : Ends} (hD : D.rt = Q) (h : sp_told K C vs H Q E) : t_told K C E D (start ["clues", "found"] vs) H := by
  obtain ⟨v, rfl, h⟩ := h
  subst hD
  change t_told K C E D [some v, none] H
  refine ⟨v, rfl, v, rfl, h.mono fun a rows hv hk H1 e1 => ?_⟩
  obtain ⟨nss, hr, ck, q⟩ := hk
  subst hv
  refine q_asgP (i := 1) (ep_fitting_of (K := K) (ea_cons (ev_var rfl) ea_nil) (hr.mono e1) ck) fun v H2 e2 hv => ?_
  have tm : toldM nss = match fittingOf nss with | [] => .never | [a] => .one a | a :: b :: _ => .two a b := rfl
  have dv : Dp K H2 v (dII (fittingOf nss)) := hv.dp
  obtain ⟨p, bs, rfl, hp, h2, hbs, hb⟩ := hv.bs
  generalize fittingOf nss = fs at *
  refine q_when (b := decide (fs = [])) (et_is (et_test (ev_eqD (d' := dII []) (ed_of (ev_var rfl) dv) (ed_lst ead_nil (by simp)) (shaped_rows _) (shaped_rows _))) (by rw [eqv_dII])) (fun hb' H3 e3 => ?_) (fun hb' H3 e3 => ?_)
  · have : fs = [] := of_decide_eq_true hb'
    subst this
    refine s_retP ep_bare fun v H4 e4 z => q v H4 (((e1.trans e2).trans e3).trans e4) ?_
    rw [tm]
    exact NewI.back ((e1.trans e2).trans e3) z
  · have hn : fs ≠ [] := of_decide_eq_false hb'
    have h3 := e3 _ _ h2
    have hb3 : ∀ b ∈ bs, H3 b.1 = some (.lst (b.2.map V.int)) := fun b m => e3 _ _ (hb b m).2
    refine s_retP (R := NewTold C (toldM nss)) (ep_if (b := decide (fs.length = 1)) (fun e z => z.back e) (et_is (et_test (ev_op (x := .int (fs.length : Int)) (ev_is (ev_lenS (K := K) (es_of (ev_var rfl) (sq_of h3))) ?_) (ev_c (v := .int 1)) (rv_eq rfl))) ?_) (fun hl => ?_) (fun hl => ?_)) fun v H4 e4 z => q v H4 (((e1.trans e2).trans e3).trans e4) (z.back ((e1.trans e2).trans e3))
    · rw [hbs, List.length_map, List.length_map]
    · rw [Bool.eq_iff_iff, decide_eq_true_eq, decide_eq_true_eq, V.int.injEq]
      omega
    · have hl := of_decide_eq_true hl
      cases bs with
      | nil => exact absurd hbs hn
      | cons b r =>
        cases r with
        | nil =>
          subst hbs
          rw [tm]
          exact ep_One (es_of (ev_ixS (es_of (ev_var rfl) (sq_of h3)) ev_c (atI_nat (j := 0) rfl)) (sq_of (hb3 b List.mem_cons_self)))
        | cons c r => rw [hbs] at hl; simp at hl
    · have hl := of_decide_eq_false hl
      cases bs with
      | nil => exact absurd hbs hn
      | cons b r =>
        cases r with
        | nil => rw [hbs] at hl; simp at hl
        | cons c r =>
          subst hbs
          rw [tm]
          exact ep_Two (K := K) (C := C) (ev_ixS (es_of (ev_var rfl) (sq_of h3)) ev_c (atI_nat (j := 0) rfl)) (ev_ixS (es_of (ev_var rfl) (sq_of h3)) ev_c (atI_nat (j := 1) rfl)) (hb3 b List.mem_cons_self) (hb3 c (List.mem_cons_of_mem _ List.mem_cons_self))

/-! ### lists of pairs -/
/-- refs to tuples of two ints -/
def Prs (K : PySem.W.Frag) (H : Hp) : List Addr → List (Int × Int) → Prop := Paired fun q pr => SqT K H q [.int pr.1, .int pr.2]
theorem Prs.mono {K : PySem.W.Frag} {H H' : Hp} {ps : List Addr} {prs : List (Int × Int)} (e : Ex H H') (h : Prs K H ps prs) : Prs K H' ps prs := Paired.mapP h fun _ _ z => ex_t e z
theorem paired_get {α β : Type} {F : α → β → Prop} : ∀ {l : List α} {m : List β} {i : Nat} {a : α}, Paired F l m → l[i]? = some a → ∃ b, m[i]? = some b ∧ F a b
  | _ :: _, _ :: _, 0, _, .cons h _, e => by
    have := Option.some.inj e
    subst this
    exact ⟨_, rfl, h⟩
  | _ :: _, _ :: _, i + 1, a, .cons _ hs, e => paired_get (i := i) (a := a) hs e
/-- arguments that are written pairs of ints -/
def EvAP (K : PySem.W.Frag) (ta : TA) (σ : L2.St) (H : Hp) (prs : List (Int × Int)) : Prop := ∀ H1, Ex H H1 → ∀ Q : List V → Hp → Prop, (∀ ps H2, Ex H1 H2 → Prs K H2 ps prs → Q (ps.map V.ref) H2) → ta σ H1 Q
section
variable {K : PySem.W.Frag} {σ : L2.St} {H H' : Hp} {ta tb te tl : TE} {tr : TA} {t : TT} {D : Ends} {tz : TS}
theorem eap_nil : EvAP K tNil σ H [] := fun H1 _ _ q => q [] H1 (Ex.refl H1) .nil
theorem eap_cons {x y : Int} {prs : List (Int × Int)} (h : EvST K ta σ H [.int x, .int y]) (hr : EvAP K tr σ H prs) : EvAP K (tCons ta tr) σ H ((x, y) :: prs) := fun H1 e _ q =>
  h H1 e _ fun p H2 e2 hp => hr H2 (e.trans e2) _ fun ps H3 e3 hs => q (p :: ps) H3 (e2.trans e3) (.cons (ex_t e3 hp) hs)
/-- xs = [(a, b), ..] -/
theorem q_asgPrs {i : Nat} {prs : List (Int × Int)} (h : EvAP K tr σ H prs) (hl : prs.length ≤ 1000) (k : ∀ p ps H1, H p = none → Ex H H1 → H1 p = some (.lst (ps.map V.ref)) → Prs K H1 ps prs → tz D (σ.set i (some (.ref p))) H1) : tSeq (tAsg (tLst tr) (gName i)) tz D σ H :=
  h H (Ex.refl H) _ fun ps H1 e hp => ⟨sz_of (by rw [List.length_map, Paired.length hp]; omega), fun p np => k p ps _ (fresh_back e np) (e.trans (Ex.new np)) upd_same (hp.mono (Ex.new np))⟩
/-- [e for a, b in ps if t], ps a list of pairs -/
theorem el_lcPrs {i j : Nat} {vs : List Nat} {a : Addr} {ps : List Addr} {prs : List (Int × Int)} (f : Int × Int → Bool) (g : Int × Int → V) (h : Ev tl σ H (.ref a)) (ha : SqL K H a (ps.map V.ref)) (hp : Prs K H ps prs) (hz : ps.length ≤ 40000)
    (hw : ∀ x y, wipe (((wipe σ vs).set i (some x)).set j (some y)) vs = wipe σ vs)
    (ht : ∀ (p : Int × Int) H1, Ex H H1 → p ∈ prs → EvT t (((wipe σ vs).set i (some (.int p.1))).set j (some (.int p.2))) H1 (f p)) (he : ∀ (p : Int × Int) H1, Ex H H1 → p ∈ prs → f p = true → Ev te (((wipe σ vs).set i (some (.int p.1))).set j (some (.int p.2))) H1 (g p)) :
    EvL (tLc (iList K tl) (gTup K 2 (gCons (gName i) (gCons (gName j) gNil))) t te vs) σ H ((prs.filter f).map g) := fun H0 e Q q => h H0 e _ fun H1 e1 => ⟨a, rfl, ⟨_, ex_l (e.trans e1) ha⟩, fun Dl hD => by
  have ln : (ps.map V.ref).length = prs.length := by rw [List.length_map]; exact Paired.length hp
  refine lc_list (xs := ps.map V.ref) (fun n => Grow H1 Dl (((prs.take n).filter f).map g)) ⟨hD, Ex.new hD, upd_same⟩ (fun n H' _ p => ex_l ((e.trans e1).trans p.2.1) ha) (fun n x H' hi p => ?_) (fun H' p => ?_)
  · rw [List.getElem?_map] at hi
    obtain ⟨r, hr, rfl⟩ := Option.map_eq_some_iff.mp hi
    obtain ⟨pr, hpr, hq⟩ := paired_get hp hr
    have hm : pr ∈ prs := List.mem_of_getElem? hpr
    refine ⟨r, _, rfl, ex_t ((e.trans e1).trans p.2.1) hq, rfl, _, _, rfl, _, _, rfl, rfl, hw _ _, ?_⟩
    have hlen : (((prs.take n).filter f).map g).length < 100000 := by
      rw [List.length_map]
      have h1 := List.length_filter_le f (prs.take n)
      have h2 : (prs.take n).length ≤ prs.length := by rw [List.length_take]; omega
      rw [List.length_map] at ln
      omega
    have w := grow_turn p hlen (ht pr H1 (e.trans e1) hm) (he pr H1 (e.trans e1) hm)
    have e2 : (((prs.take (n + 1)).filter f).map g) = ((prs.take n).filter f).map g ++ if f pr = true then [g pr] else [] := by
      rw [take_snoc hpr, List.filter_append, List.map_append]
      congr 1
      cases hf : f pr <;> simp [hf]
    rw [e2]
    exact w
  · rw [ln, List.take_length] at p
    exact q Dl H' (fresh_back e1 p.1) (e1.trans p.2.1) p.2.2⟩
end

/-! ### side_ahead -/
def dP (a b : Int) : PyData := .tuple [.int a, .int b]
theorem dp_pair {K : PySem.W.Frag} {H : Hp} {v : V} {a b : Int} (h : Dp K H v (dP a b)) : ∃ p, v = .ref p ∧ SqT K H p [.int a, .int b] := by
  cases h with
  | tup hs ha =>
    cases ha with
    | cons h1 h2 =>
      cases h2 with
      | cons h3 h4 =>
        cases h4
        cases h1
        cases h3
        exact ⟨_, rfl, hs⟩
theorem pair_dp {K : PySem.W.Frag} {H : Hp} {p : Addr} {a b : Int} (h : SqT K H p [.int a, .int b]) : Dp K H (.ref p) (dP a b) := .tup h (.cons (.int a) (.cons (.int b) .nil))
section
variable {K : PySem.W.Frag} {σ : L2.St} {H : Hp} {te ta tb : TE} {D : Ends} {tz : TS} {d : PyData}
theorem q_asgD {i : Nat} (h : EvD K te σ H d) (k : ∀ v H1, Ex H H1 → Dp K H1 v d → tz D (σ.set i (some v)) H1) : tSeq (tAsg te (gName i)) tz D σ H := h H (Ex.refl H) _ fun v H1 e z => k v H1 e z
theorem ed_pair {a b : Int} (ha : Ev ta σ H (.int a)) (hb : Ev tb σ H (.int b)) : EvD K (tTup (tCons ta (tCons tb tNil))) σ H (dP a b) := ed_tup (ead_cons (ed_int ha) (ead_cons (ed_int hb) ead_nil)) (by simp)
end
theorem dp_two {K : PySem.W.Frag} {H : Hp} {v : V} {d e : PyData} (h : Dp K H v (.tuple [d, e])) : ∃ p x y, v = .ref p ∧ SqT K H p [x, y] ∧ Dp K H x d ∧ Dp K H y e := by
  cases h with
  | tup hs ha =>
    cases ha with
    | cons h1 h2 =>
      cases h2 with
      | cons h3 h4 =>
        cases h4
        exact ⟨_, _, _, rfl, hs, h1, h3⟩
theorem dp_four {K : PySem.W.Frag} {H : Hp} {v : V} {d0 d1 d2 d3 : PyData} (h : Dp K H v (.tuple [d0, d1, d2, d3])) : ∃ p x0 x1 x2 x3, v = .ref p ∧ SqT K H p [x0, x1, x2, x3] ∧ Dp K H x0 d0 ∧ Dp K H x1 d1 ∧ Dp K H x2 d2 ∧ Dp K H x3 d3 := by
  cases h with
  | tup hs ha =>
    cases ha with
    | cons h0 h => cases h with
      | cons h1 h => cases h with
        | cons h2 h => cases h with
          | cons h3 h =>
            cases h
            exact ⟨_, _, _, _, _, rfl, hs, h0, h1, h2, h3⟩
/-- of four: the one at t -/
theorem pick4 {K : PySem.W.Frag} {H : Hp} {x0 x1 x2 x3 : V} (f : Nat → PyData) (h0 : Dp K H x0 (f 0)) (h1 : Dp K H x1 (f 1)) (h2 : Dp K H x2 (f 2)) (h3 : Dp K H x3 (f 3)) {t : Nat} (ht : t < 4) : ∃ x, atI [x0, x1, x2, x3] (t : Int) = some x ∧ Dp K H x (f t) := by
  have : t = 0 ∨ t = 1 ∨ t = 2 ∨ t = 3 := by omega
  rcases this with rfl | rfl | rfl | rfl
  · exact ⟨_, atI_nat (j := 0) rfl, h0⟩
  · exact ⟨_, atI_nat (j := 1) rfl, h1⟩
  · exact ⟨_, atI_nat (j := 2) rfl, h2⟩
  · exact ⟨_, atI_nat (j := 3) rfl, h3⟩
def sp_side_ahead (K : PySem.W.Frag) : Sp := fun vs H Q _ => ∃ g c q h w cs r a t, vs = [.ref g, .ref c, .ref q, .int ((t : Nat) : Int)] ∧ SqT K H g [.int ((h : Nat) : Int), .int ((w : Nat) : Int)] ∧ GOk h w ∧ SqL K H c ((cs : List Int).map V.int) ∧ SqT K H q [.int r, .int a] ∧ t < 4 ∧ RetV (.bl (sideAhead h w cs r a t)) H Q
theorem ev_side_ahead {K : PySem.W.Frag} {σ : L2.St} {H : Hp} {ta : TA} {E : XK} {g c q : Addr} {h w t : Nat} {cs : List Int} {r a : Int} (ha : EvA ta σ H [.ref g, .ref c, .ref q, .int (t : Int)]) (hs : SqT K H g [.int (h : Int), .int (w : Int)]) (gk : GOk h w) (hc : SqL K H c (cs.map V.int)) (hq : SqT K H q [.int r, .int a]) (ht : t < 4) :
    Ev (tCall (sp_side_ahead K) [] E ta) σ H (.bl (sideAhead h w cs r a t)) := fun H1 e Q k =>
  ha H1 e _ fun H2 e2 => ⟨g, c, q, h, w, cs, r, a, t, rfl, ex_t (e.trans e2) hs, gk, ex_l (e.trans e2) hc, ex_t (e.trans e2) hq, ht, fun H3 e3 => k H3 (e2.trans e3)⟩
def t_side_ahead (K : PySem.W.Frag) : TS := (tSeq (tAsg (tVar 0) (gTup K 2 (gCons (gName 4) (gCons (gName 5) gNil))))
      (tSeq (tAsg (tVar 2) (gTup K 2 (gCons (gName 6) (gCons (gName 7) gNil))))
      (tSeq (tAsg (tTup (tCons (tTup (tCons (tTup (tCons (tOp oSub (tVar 6) (tC (.int 1))) (tCons (tVar 7) tNil))) (tCons (tTup (tCons (tVar 6) (tCons (tVar 7) tNil))) tNil))) (tCons (tTup (tCons (tTup (tCons (tVar 6) (tCons (tVar 7) tNil))) (tCons (tTup (tCons (tVar 6) (tCons (tOp oSub (tVar 7) (tC (.int 1))) tNil))) tNil))) (tCons (tTup (tCons (tTup (tCons (tVar 6) (tCons (tOp oSub (tVar 7) (tC (.int 1))) tNil))) (tCons (tTup (tCons (tOp oSub (tVar 6) (tC (.int 1))) (tCons (tOp oSub (tVar 7) (tC (.int 1))) tNil))) tNil))) (tCons (tTup (tCons (tTup (tCons (tOp oSub (tVar 6) (tC (.int 1))) (tCons (tOp oSub (tVar 7) (tC (.int 1))) tNil))) (tCons (tTup (tCons (tOp oSub (tVar 6) (tC (.int 1))) (tCons (tVar 7) tNil))) tNil))) tNil))))) (gName 8))
      (tSeq (tAsg (tLst tNil) (gName 9))
      (tSeq (tFor (iTup K (tOp (rIxT K) (tVar 8) (tVar 3))) (gTup K 2 (gCons (gName 10) (gCons (gName 11) gNil))) (tDrop (tBM K "list" rAppend (tVar 9) (tCons (tAndV (tChain oLe oLt (tC (.int 0)) (tVar 10) (tVar 4)) (tAndV (tChain oLe oLt (tC (.int 0)) (tVar 11) (tVar 5)) (tOp (rIn K false) (tOp oAdd (tOp oMul (tVar 10) (tVar 5)) (tVar 11)) (tVar 1)))) tNil))))
      (tRet (tOp rNe (tOp (rIxL K) (tVar 9) (tC (.int 0))) (tOp (rIxL K) (tVar 9) (tC (.int 1))))))))))
def dQ (r a : Int) (t : Nat) : PyData := .tuple [dP (pairOf r a t).1.1 (pairOf r a t).1.2, dP (pairOf r a t).2.1 (pairOf r a t).2.2]
theorem pure_side_ahead {K : PySem.W.Frag} {vs : List V} {H : Hp} {Q : VK} {E : XK} {D : Ends} (hD : D.rt = Q) (h : sp_side_ahead K vs H Q E) : t_side_ahead K D (start ["grid", "cells", "point", "turn", "high", "wide", "row", "at", "pairs", "found", "here", "there"] vs) H := by
  obtain ⟨g, c, q, h, w, cs, r, a, t, rfl, hs, gk, hc, hq, ht, k⟩ := h
  subst hD
  change t_side_ahead K D [some (.ref g), some (.ref c), some (.ref q), some (.int (t : Int)), none, none, none, none, none, none, none, none] H
  have gb := gk
  obtain ⟨g1, g2, g3, g4⟩ := gb
  refine q_unp (i := 4) (j := 5) (est_of (ev_var rfl) hs) fun H1 e1 => ?_
  refine q_unp (i := 6) (j := 7) (est_of (ev_var rfl) (ex_t e1 hq)) fun H2 e2 => ?_
  refine q_asgD (K := K) (i := 8) (d := .tuple [dQ r a 0, dQ r a 1, dQ r a 2, dQ r a 3]) (ed_tup (ead_cons (d := dQ r a 0) (ed_tup (ead_cons (d := dP (r - 1) a) (ed_pair (by walk_at "ev") (by walk_at "ev")) (ead_cons (d := dP r a) (ed_pair (by walk_at "ev") (by walk_at "ev")) ead_nil)) (by simp))
    (ead_cons (d := dQ r a 1) (ed_tup (ead_cons (d := dP r a) (ed_pair (by walk_at "ev") (by walk_at "ev")) (ead_cons (d := dP r (a - 1)) (ed_pair (by walk_at "ev") (by walk_at "ev")) ead_nil)) (by simp))
    (ead_cons (d := dQ r a 2) (ed_tup (ead_cons (d := dP r (a - 1)) (ed_pair (by walk_at "ev") (by walk_at "ev")) (ead_cons (d := dP (r - 1) (a - 1)) (ed_pair (by walk_at "ev") (by walk_at "ev")) ead_nil)) (by simp))
    (ead_cons (d := dQ r a 3) (ed_tup (ead_cons (d := dP (r - 1) (a - 1)) (ed_pair (by walk_at "ev") (by walk_at "ev")) (ead_cons (d := dP (r - 1) a) (ed_pair (by walk_at "ev") (by walk_at "ev")) ead_nil)) (by simp)) ead_nil)))) (by simp)) fun v H3 e3 hv => ?_
  obtain ⟨p, x0, x1, x2, x3, rfl, sp, d0, d1, d2, d3⟩ := dp_four hv
  obtain ⟨x, hx, dx⟩ := pick4 (dQ r a) d0 d1 d2 d3 ht
  obtain ⟨y, u, v, rfl, sy, du, dv⟩ := dp_two dx
  obtain ⟨pu, rfl, su⟩ := dp_pair du
  obtain ⟨pv, rfl, sv⟩ := dp_pair dv
  refine q_asgL (i := 9) (xs := []) (el_lst ea_nil (by simp)) fun f H4 hf e4 h4 => ?_
  have hs4 := ex_t ((e1.trans e2).trans (e3.trans e4)) hs
  have hc4 := ex_l ((e1.trans e2).trans (e3.trans e4)) hc
  have tgt : Ev (tOp (rIxT K) (tVar 8) (tVar 3)) [some (.ref g), some (.ref c), some (.ref q), some (.int (t : Int)), some (.int (h : Int)), some (.int (w : Int)), some (.int r), some (.int a), some (.ref p), some (.ref f), none, none] H4 (.ref y) := ev_ixT (est_of (ev_var rfl) (ex_t e4 sp)) (ev_var rfl) hx
  have isS : sideAhead h w cs r a t = (inCell h w cs (pairOf r a t).1.1 (pairOf r a t).1.2 != inCell h w cs (pairOf r a t).2.1 (pairOf r a t).2.2) := rfl
  generalize (pairOf r a t).1.1 = r1 at *
  generalize (pairOf r a t).1.2 = a1 at *
  generalize (pairOf r a t).2.1 = r2 at *
  generalize (pairOf r a t).2.2 = a2 at *
  refine q_forT (K := K) tgt (ex_t e4 sy) (fun n σ' H' => ∃ y10 y11, σ' = [some (.ref g), some (.ref c), some (.ref q), some (.int (t : Int)), some (.int (h : Int)), some (.int (w : Int)), some (.int r), some (.int a), some (.ref p), some (.ref f), y10, y11] ∧ (∀ b o, b ≠ f → H4 b = some o → H' b = some o) ∧ H' f = some (.lst (([inCell h w cs r1 a1, inCell h w cs r2 a2].take n).map V.bl)))
    (fun H5 e5 => ⟨_, _, rfl, fun b o _ hb => e5 _ _ hb, e5 _ _ h4⟩) (fun n σ' H' _ hP => ?_) (fun n x σ' H' hx hP => ?_) (fun σ' H' hP => ?_)
  · obtain ⟨_, _, _, hb, _⟩ := hP
    have ex3 : Ex H3 H' := fun b o ho => hb b o (ne_of_none ho hf) (e4 _ _ ho)
    exact ex_t ex3 sy
  · obtain ⟨y10, y11, rfl, hb, hl⟩ := hP
    have ex3 : Ex H3 H' := fun b o ho => hb b o (ne_of_none ho hf) (e4 _ _ ho)
    have hcX : SqL K H' c (cs.map V.int) := ex_l (((e1.trans e2).trans e3).trans ex3) hc
    have val' : ∀ (r1 a1 : Int), Ev (tAndV (tChain oLe oLt (tC (.int 0)) (tVar 10) (tVar 4)) (tAndV (tChain oLe oLt (tC (.int 0)) (tVar 11) (tVar 5)) (tOp (rIn K false) (tOp oAdd (tOp oMul (tVar 10) (tVar 5)) (tVar 11)) (tVar 1))))
        [some (.ref g), some (.ref c), some (.ref q), some (.int (t : Int)), some (.int (h : Int)), some (.int (w : Int)), some (.int r), some (.int a), some (.ref p), some (.ref f), some (.int r1), some (.int a1)] H' (.bl (inCell h w cs r1 a1)) := fun r1 a1 =>
      ev_andV (ev_chain (x := .int 0) (y := .int r1) (z := .int (h : Int)) ev_c (ev_var rfl) rv_I0 (fun _ => ev_var rfl) (fun _ => rv_I0)) (fun _ => ev_andV (ev_chain (x := .int 0) (y := .int a1) (z := .int (w : Int)) ev_c (ev_var rfl) rv_I0 (fun _ => ev_var rfl) (fun _ => rv_I0))
        (fun _ => ev_isIn (ev_op (x := .int (r1 * (w : Int))) (y := .int a1) (ev_op (x := .int r1) (y := .int (w : Int)) (ev_var rfl) (ev_var rfl) (rv_I (.inr ⟨by omega, by omega⟩))) (ev_var rfl) rv_I0) (es_of (ev_var rfl) hcX)))
    have hn : n = 0 ∨ n = 1 := by
      have := (List.getElem?_eq_some_iff.mp hx).1
      simp only [List.length_cons, List.length_nil] at this
      omega
    rcases hn with rfl | rfl
    · have : x = .ref pu := (Option.some.inj hx).symm
      subst this
      refine ⟨pu, _, rfl, ex_t ex3 su, rfl, _, _, rfl, _, _, rfl, rfl, ?_⟩
      refine s_app (K := K) (l := f) hl (ev_var rfl) (val' r1 a1) (by simp) fun H6 e6 => ⟨_, _, rfl, fun b o nb hb' => ?_, ?_⟩
      · rw [upd_ne nb]
        exact e6 _ _ (hb b o nb hb')
      · rw [upd_same]
        rfl
    · have : x = .ref pv := (Option.some.inj hx).symm
      subst this
      refine ⟨pv, _, rfl, ex_t ex3 sv, rfl, _, _, rfl, _, _, rfl, rfl, ?_⟩
      refine s_app (K := K) (l := f) hl (ev_var rfl) (val' r2 a2) (by simp) fun H6 e6 => ⟨_, _, rfl, fun b o nb hb' => ?_, ?_⟩
      · rw [upd_ne nb]
        exact e6 _ _ (hb b o nb hb')
      · rw [upd_same]
        rfl
  · obtain ⟨y10, y11, rfl, hb, hl⟩ := hP
    have ex3 : Ex H3 H' := fun b o ho => hb b o (ne_of_none ho hf) (e4 _ _ ho)
    have hl' : H' f = some (.lst [.bl (inCell h w cs r1 a1), .bl (inCell h w cs r2 a2)]) := hl
    refine s_ret (v := .bl (sideAhead h w cs r a t)) (ev_is (ev_op (x := .bl (inCell h w cs r1 a1)) (y := .bl (inCell h w cs r2 a2)) (ev_ixS (es_of (ev_var rfl) (sq_of hl')) ev_c (atI_nat (j := 0) rfl)) (ev_ixS (es_of (ev_var rfl) (sq_of hl')) ev_c (atI_nat (j := 1) rfl)) (rv_ne rfl)) ?_) fun H5 e5 => k H5 ((((e1.trans e2).trans e3).trans ex3).trans e5)
    rw [isS]
    cases inCell h w cs r1 a1 <;> cases inCell h w cs r2 a2 <;> rfl

/-! ### walk -/
def NewPts (K : PySem.W.Frag) (pts : List (Int × Int)) (H1 : Hp) (v : V) (H2 : Hp) : Prop := ∃ p qs, v = .ref p ∧ H1 p = none ∧ H2 p = some (.lst (qs.map V.ref)) ∧ Prs K H2 qs pts
theorem NewPts.back {K : PySem.W.Frag} {pts : List (Int × Int)} {H0 H1 H2 : Hp} {v : V} (e : Ex H0 H1) (h : NewPts K pts H1 v H2) : NewPts K pts H0 v H2 := by
  obtain ⟨p, qs, rfl, hp, h2, h3⟩ := h
  exact ⟨p, qs, rfl, fresh_back e hp, h2, h3⟩
def OkW (K : PySem.W.Frag) (C : Ad) (H : Hp) (Q : VK) (E : XK) : Addr → Nat → Nat → List Int → Prop := fun _ h w cs =>
  (isRing h w cs = false ∧ RetE C.cNoRing H E) ∨ (isRing h w cs = true ∧ ∃ pts, walkOf h w cs = some pts ∧ RetP (NewPts K pts) H Q)
def sp_walk (K : PySem.W.Frag) (C : Ad) : Sp := fun vs H Q E => ∃ v u, vs = [v, u] ∧ DoorGC K C v u H Q E (OkW K C H Q E)
theorem ep_walk {K : PySem.W.Frag} {C : Ad} {σ : L2.St} {H : Hp} {ta tb : TE} {E : XK} {h w : Nat} {cs : List Int} {pts : List (Int × Int)} (ha : EvST K ta σ H [.int (h : Int), .int (w : Int)]) (gk : GOk h w) (hc : EvS K tb σ H (cs.map V.int)) (ck : COk h w cs) (hi : isRing h w cs = true) (hp : walkOf h w cs = some pts) :
    EvP (tCall (sp_walk K C) [] E (tCons ta (tCons tb tNil))) σ H (NewPts K pts) := fun H1 e Q q =>
  ha H1 e _ fun g H2 e2 hg => hc H2 (e.trans e2) _ fun c H3 e3 hc3 => ⟨_, _, rfl, .inr ⟨g, h, w, rfl, ex_t e3 hg, gk, .inr ⟨c, cs, rfl, hc3, ck, .inr ⟨hi, pts, hp, fun v H4 e4 z => q v H4 ((e2.trans e3).trans e4) (z.back (e2.trans e3))⟩⟩⟩⟩
def t_walk (K : PySem.W.Frag) (C : Ad) (E : XK) : TS := (tSeq (tDrop (tCall (sp_check_grid K C) [] E (tCons (tVar 0) tNil)))
      (tSeq (tDrop (tCall (sp_check_cells K C) [] E (tCons (tVar 0) (tCons (tVar 1) tNil))))
      (tSeq (tIfS (tNot (tB (tCall (sp_is_ring K) [] E0 (tCons (tVar 0) (tCons (tVar 1) tNil))))) (tRaise E (.ref C.cNoRing)) tNext)
      (tSeq (tAsg (tTup (tCons (tOp oDiv (tOp (rIxL K) (tVar 1) (tC (.int 0))) (tOp (rIxT K) (tVar 0) (tC (.int 1)))) (tCons (tOp oMod (tOp (rIxL K) (tVar 1) (tC (.int 0))) (tOp (rIxT K) (tVar 0) (tC (.int 1)))) tNil))) (gName 2))
      (tSeq (tAsg (tTup (tCons (tTup (tCons (tC (.int 0)) (tCons (tC (.int 1)) tNil))) (tCons (tTup (tCons (tC (.int 1)) (tCons (tC (.int 0)) tNil))) (tCons (tTup (tCons (tC (.int 0)) (tCons (tUn oNeg (tC (.int 1))) tNil))) (tCons (tTup (tCons (tUn oNeg (tC (.int 1))) (tCons (tC (.int 0)) tNil))) tNil))))) (gName 3))
      (tSeq (tPar 4 5 (tCons (tLst (tCons (tVar 2) tNil)) (tCons (tC (.int 0)) tNil)))
      (tSeq (tAsg (tTup (tCons (tOp (rIxT K) (tVar 2) (tC (.int 0))) (tCons (tOp oAdd (tOp (rIxT K) (tVar 2) (tC (.int 1))) (tC (.int 1))) tNil))) (gName 6))
      (tSeq (tWhile (tTest (tOp (rNeD K) (tVar 6) (tVar 2))) (tSeq (tDrop (tBM K "list" rAppend (tVar 4) (tCons (tVar 6) tNil)))
      (tSeq (tAsg (tOp oMod (tOp oAdd (tVar 5) (tC (.int 2))) (tC (.int 4))) (gName 7))
      (tSeq (tAsg (tOp (rIxL K) (tLc (iRng1 (tCons (tC (.int 4)) tNil)) (gName 8) (tAnd (tTest (tOp rNe (tVar 8) (tVar 7))) (tB (tCall (sp_side_ahead K) [] E0 (tCons (tVar 0) (tCons (tVar 1) (tCons (tVar 6) (tCons (tVar 8) tNil))))))) (tVar 8) [8]) (tC (.int 0))) (gName 5))
      (tAsg (tTup (tCons (tOp oAdd (tOp (rIxT K) (tVar 6) (tC (.int 0))) (tOp (rIxT K) (tOp (rIxT K) (tVar 3) (tVar 5)) (tC (.int 0)))) (tCons (tOp oAdd (tOp (rIxT K) (tVar 6) (tC (.int 1))) (tOp (rIxT K) (tOp (rIxT K) (tVar 3) (tVar 5)) (tC (.int 1)))) tNil))) (gName 6))))))
      (tRet (tVar 4))))))))))
def dS (t : Nat) : PyData := dP (stepOf t).1 (stepOf t).2
theorem eqv_dP (a b c d : Int) : PyData.eqv (dP a b) (dP c d) = decide (a = c ∧ b = d) := by
  unfold dP
  rw [Bool.eq_iff_iff]
  simp [PyData.eqv, PyData.eqvAll]
theorem shaped_dP (a b : Int) : SeqAt.shaped (dP a b) = true := by
  have e1 : PyData.canLay0 (dP a b) = true := by
    unfold dP
    simp [PyData.canLay0, PyData.canLayAll0]
  have e2 : PyData.depth (dP a b) ≤ 64 := by
    unfold dP
    simp [PyData.depth, PyData.depthAll]
  unfold SeqAt.shaped
  rw [e1, decide_eq_true e2]
  rfl
theorem pure_walk {K : PySem.W.Frag} {C : Ad} {vs : List V} {H : Hp} {Q : VK} {E : XK} {D : Ends} (hD : D.rt = Q) (h : sp_walk K C vs H Q E) : t_walk K C E D (start ["grid", "cells", "first", "steps", "found", "turn", "here", "back", "way"] vs) H := by
  obtain ⟨v, u, rfl, hd⟩ := h
  subst hD
  change t_walk K C E D [some v, some u, none, none, none, none, none, none, none] H
  refine q_checks rfl rfl hd fun g h w c cs H1 hv hu e1 hs gk hc ck hok => ?_
  subst hv hu
  clear hd
  have cl := cok_len gk ck
  have gb := gk
  obtain ⟨g1, g2, g3, g4⟩ := gb
  have ir := ev_is_ring (K := K) (E := E0) (σ := [some (.ref g), some (.ref c), none, none, none, none, none, none, none]) (H := H1) (ta := tCons (tVar 0) (tCons (tVar 1) tNil)) (ea_cons (ev_var rfl) (ea_cons (ev_var rfl) ea_nil)) hs gk hc ck.1 (by omega)
  rcases hok with ⟨hi, q⟩ | ⟨hi, pts, hw, q⟩
  · rw [hi] at ir
    exact q_when (et_not (et_B ir)) (fun _ H2 e2 => q H2 (e1.trans e2)) (fun z => nomatch z)
  · rw [hi] at ir
    refine q_when (et_not (et_B ir)) (fun z => nomatch z) (fun _ H2 e2 => ?_)
    have hs2 := ex_t e2 hs
    have hc2 := ex_l e2 hc
    have it : Ev (tOp (rIxL K) (tVar 1) (tC (.int 0))) [some (.ref g), some (.ref c), none, none, none, none, none, none, none] H2 (.int (cs.headD 0)) := ev_ixS (es_of (ev_var rfl) hc2) ev_c (at_first ck.1)
    have wt : Ev (tOp (rIxT K) (tVar 0) (tC (.int 1))) [some (.ref g), some (.ref c), none, none, none, none, none, none, none] H2 (.int (w : Int)) := by walk_at "ev"
    unfold walkOf at hw
    generalize hfr : cs.headD 0 / (w : Int) = fr at *
    generalize hfc : cs.headD 0 % (w : Int) = fc at *
    refine q_asgU (i := 2) (xs := [.int fr, .int fc]) (eu_tup (ea_cons (by rw [← hfr]; exact ev_op it wt (rv_I ⟨by omega, by omega⟩)) (ea_cons (by rw [← hfc]; exact ev_op it wt (rv_I (by show (0 : Int) < _; omega))) ea_nil)) (by simp)) fun fp H3 hfp e3 h3 => ?_
    refine q_asgD (K := K) (i := 3) (d := .tuple [dS 0, dS 1, dS 2, dS 3]) (ed_tup (ead_cons (d := dS 0) (ed_pair (a := 0) (b := 1) ev_c ev_c) (ead_cons (d := dS 1) (ed_pair (a := 1) (b := 0) ev_c ev_c) (ead_cons (d := dS 2) (ed_pair (a := 0) (b := -1) ev_c (ev_un ev_c ru_neg)) (ead_cons (d := dS 3) (ed_pair (a := -1) (b := 0) (ev_un ev_c ru_neg) ev_c) ead_nil)))) (by simp)) fun v H4 e4 hv => ?_
    obtain ⟨sp, x0, x1, x2, x3, rfl, ss, d0, d1, d2, d3⟩ := dp_four hv
    have pk := fun {t : Nat} (ht : t < 4) => pick4 dS d0 d1 d2 d3 ht
    refine q_parL1 (i := 4) (j := 5) (xs := [.ref fp]) (y := .int 0) (el_lst (ea_cons (ev_var rfl) ea_nil) (by simp)) ev_c fun p H5 hp e5 h5 => ?_
    have h3' : ∀ {H'}, Ex H3 H' → SqT K H' fp [.int fr, .int fc] := fun e => st_of (e _ _ h3)
    have f0 : Ev (tOp (rIxT K) (tVar 2) (tC (.int 0))) [some (.ref g), some (.ref c), some (.ref fp), some (.ref sp), some (.ref p), some (.int 0), none, none, none] H5 (.int fr) := ev_ixT (est_of (ev_var rfl) (h3' (e4.trans e5))) ev_c (atI_nat (j := 0) rfl)
    have f1 : Ev (tOp (rIxT K) (tVar 2) (tC (.int 1))) [some (.ref g), some (.ref c), some (.ref fp), some (.ref sp), some (.ref p), some (.int 0), none, none, none] H5 (.int fc) := ev_ixT (est_of (ev_var rfl) (h3' (e4.trans e5))) ev_c (atI_nat (j := 1) rfl)
    refine q_asgU (i := 6) (xs := [.int fr, .int (fc + 1)]) (eu_tup (ea_cons f0 (ea_cons (ev_op f1 (ev_c (v := .int 1)) rv_I0) ea_nil)) (by simp)) fun hp6 H6 hhp e6 h6 => ?_
    have b4 : Ex H H4 := ((e1.trans e2).trans e3).trans e4
    refine q_while (fun m σ' H' => ∃ (f : List (Int × Int)) (t : Nat) (r a : Int) (hr : Addr) (qs : List Addr) (y7 : Option V), σ' = [some (.ref g), some (.ref c), some (.ref fp), some (.ref sp), some (.ref p), some (.int (t : Int)), some (.ref hr), y7, none] ∧ Ex H4 H' ∧ H' p = some (.lst (qs.map V.ref)) ∧ Prs K H' qs f ∧ SqT K H' hr [.int r, .int a] ∧ t < 4 ∧ f.length + m ≤ 201 ∧ walkGo h w cs fr fc m f t r a = some pts)
      200 ⟨[(fr, fc)], 0, fr, fc + 1, hp6, [fp], none, rfl, e5.trans e6, e6 _ _ h5, .cons (h3' ((e4.trans e5).trans e6)) .nil, st_of h6, by decide, by simp, hw⟩ fun m σ' H' hW => ?_
    obtain ⟨f, t, r, a, hr, qs, y7, rfl, e7, h7, hps, hhr, ht, hm, hg⟩ := hW
    have hs7 : SqT K H' g [.int (h : Int), .int (w : Int)] := ex_t ((e3.trans e4).trans e7) hs2
    have hc7 : SqL K H' c (cs.map V.int) := ex_l ((e3.trans e4).trans e7) hc2
    refine ⟨!decide (r = fr ∧ a = fc), et_is (et_test (ev_neD (ed_of (ev_var rfl) (pair_dp hhr)) (ed_of (ev_var rfl) (pair_dp (h3' (e4.trans e7)))) (shaped_dP _ _) (shaped_dP _ _))) (by rw [eqv_dP]), fun hb H8 e8 => ?_, fun hb H8 e8 => ?_⟩
    · have hb' : ¬ (r = fr ∧ a = fc) := by
        rw [Bool.not_eq_true', decide_eq_false_iff_not] at hb
        exact hb
      cases m with
      | zero => cases hg
      | succ m =>
        unfold walkGo at hg
        rw [if_neg hb'] at hg
        cases hwy : ways h w cs r a t with
        | nil => rw [hwy] at hg; cases hg
        | cons y ys =>
          rw [hwy] at hg
          dsimp only at hg
          have yl : y < 4 := ways_lt (by rw [hwy]; exact List.mem_cons_self)
          refine ⟨fun σ2 H2 => ∃ (f : List (Int × Int)) (t : Nat) (r a : Int) (hr : Addr) (qs : List Addr) (y7 : Option V), σ2 = [some (.ref g), some (.ref c), some (.ref fp), some (.ref sp), some (.ref p), some (.int (t : Int)), some (.ref hr), y7, none] ∧ Ex H4 H2 ∧ H2 p = some (.lst (qs.map V.ref)) ∧ Prs K H2 qs f ∧ SqT K H2 hr [.int r, .int a] ∧ t < 4 ∧ f.length + m ≤ 201 ∧ walkGo h w cs fr fc m f t r a = some pts, fun σ2 H2 z => ⟨m, by omega, z⟩, ?_⟩
          have ql := Paired.length hps
          have prm : ∀ {Ha Hb : Hp}, (∀ b o, b ≠ p → Ha b = some o → Hb b = some o) → Ha p = some (.lst (qs.map V.ref)) → ∀ {q : Addr} {u v : V}, SqT K Ha q [u, v] → SqT K Hb q [u, v] := by
            intro Ha Hb k hap q u v sq
            rcases sq with (z | ⟨o, z⟩) | z
            · exact .inl (.inl (k _ _ (ne_of z hap (by intro z; cases z)) z))
            · exact .inl (.inr ⟨o, k _ _ (ne_of z hap (by intro z; cases z)) z⟩)
            · exact .inr z
          refine q_app (K := K) (l := p) (v := .ref hr) (e8 _ _ h7) (ev_var rfl) (ev_var rfl) (by rw [List.length_map, ql]; omega) fun H9 e9 => ?_
          have kp : ∀ b o, b ≠ p → H' b = some o → (upd H9 p (.lst (qs.map V.ref ++ [.ref hr]))) b = some o := fun b o nb hb => by rw [upd_ne nb]; exact e9 _ _ (e8 _ _ hb)
          have ex9 : Ex H4 (upd H9 p (.lst (qs.map V.ref ++ [.ref hr]))) := Ex.mut ((e7.trans e8).trans e9) hp
          have p9 : (upd H9 p (.lst (qs.map V.ref ++ [.ref hr]))) p = some (.lst (qs.map V.ref ++ [.ref hr])) := upd_same
          have hhr9 := prm kp h7 hhr
          have hps9 : Prs K (upd H9 p (.lst (qs.map V.ref ++ [.ref hr]))) (qs ++ [hr]) (f ++ [(r, a)]) := paired_snoc (Paired.mapP hps fun q pr z => prm kp h7 z) hhr9
          generalize upd H9 p (.lst (qs.map V.ref ++ [.ref hr])) = Hn at *
          have hsn : SqT K Hn g [.int (h : Int), .int (w : Int)] := ex_t ((e3.trans e4).trans ex9) hs2
          have hcn : SqL K Hn c (cs.map V.int) := ex_l ((e3.trans e4).trans ex9) hc2
          refine q_asg (i := 7) (v := .int (((t + 2) % 4 : Nat) : Int)) (ev_is (ev_op (x := .int ((t : Int) + 2)) (y := .int 4) (ev_op (x := .int (t : Int)) (y := .int 2) (ev_var rfl) ev_c rv_I0) ev_c (rv_I (by show (0 : Int) < 4; decide))) (by show V.int (((t : Int) + 2) % 4) = _; congr 1)) fun H10 e10 => ?_
          have l := el_lcR (σ := [some (.ref g), some (.ref c), some (.ref fp), some (.ref sp), some (.ref p), some (.int (t : Int)), some (.ref hr), some (.int (((t + 2) % 4 : Nat) : Int)), none]) (H := H10) (t := tAnd (tTest (tOp rNe (tVar 8) (tVar 7))) (tB (tCall (sp_side_ahead K) [] E0 (tCons (tVar 0) (tCons (tVar 1) (tCons (tVar 6) (tCons (tVar 8) tNil))))))) (te := tVar 8) (j := 8) (vs := [8]) (n := 4) (ta := tCons (tC (.int 4)) tNil)
            (fun y => !decide (y = (t + 2) % 4) && sideAhead h w cs r a y) (fun y => V.int (y : Int)) (ea_cons ev_c ea_nil) (by decide) (fun _ => rfl)
            (fun i H11 e11 hi => et_and (et_is (et_test (ev_op (x := .int (i : Int)) (y := .int (((t + 2) % 4 : Nat) : Int)) (ev_var rfl) (ev_var rfl) (rv_ne rfl))) (by rw [Bool.eq_iff_iff]; simp only [Bool.not_eq_true', decide_eq_false_iff_not, V.int.injEq]; omega)) (fun _ => et_B (ev_side_ahead (ea_cons (ev_var rfl) (ea_cons (ev_var rfl) (ea_cons (ev_var rfl) (ea_cons (ev_var rfl) ea_nil)))) (ex_t (e10.trans e11) hsn) gk (ex_l (e10.trans e11) hcn) (ex_t (e10.trans e11) hhr9) hi))) (fun i H11 e11 hi _ => ev_var rfl)
          have lw : (((List.range 4).filter fun (y : Nat) => !decide (y = (t + 2) % 4) && sideAhead h w cs r a y).map fun (y : Nat) => V.int (y : Int)) = (ways h w cs r a t).map fun (y : Nat) => V.int (y : Int) := rfl
          rw [lw, hwy] at l
          refine q_asg (i := 5) (v := .int (y : Int)) (ev_ixS (es_new l) ev_c (atI_nat (j := 0) rfl)) fun H11 e11 => ?_
          obtain ⟨xt, hxt, dxt⟩ := pk yl
          obtain ⟨pt, rfl, spt⟩ := dp_pair dxt
          have hh11 := ex_t (e10.trans e11) hhr9
          have e4n : Ex H4 H11 := ex9.trans (e10.trans e11)
          have sti : Ev (tOp (rIxT K) (tVar 3) (tVar 5)) [some (.ref g), some (.ref c), some (.ref fp), some (.ref sp), some (.ref p), some (.int (y : Int)), some (.ref hr), some (.int (((t + 2) % 4 : Nat) : Int)), none] H11 (.ref pt) := ev_ixT (est_of (ev_var rfl) (ex_t e4n ss)) (ev_var rfl) hxt
          refine s_asgU (i := 6) (xs := [.int (r + (stepOf y).1), .int (a + (stepOf y).2)]) (eu_tup (ea_cons (ev_op (ev_ixT (est_of (ev_var rfl) hh11) ev_c (atI_nat (j := 0) rfl)) (ev_ixT (est_of sti (ex_t e4n spt)) ev_c (atI_nat (j := 0) rfl)) rv_I0) (ea_cons (ev_op (ev_ixT (est_of (ev_var rfl) hh11) ev_c (atI_nat (j := 1) rfl)) (ev_ixT (est_of sti (ex_t e4n spt)) ev_c (atI_nat (j := 1) rfl)) rv_I0) ea_nil)) (by simp)) fun hr' H12 hhr' e12 h12 => ?_
          refine ⟨f ++ [(r, a)], y, _, _, hr', qs ++ [hr], _, rfl, e4n.trans e12, ?_, hps9.mono ((e10.trans e11).trans e12), st_of h12, yl, by rw [List.length_append]; simp; omega, hg⟩
          rw [e12 _ _ (e11 _ _ (e10 _ _ p9)), List.map_append]
          rfl
    · have hb' : r = fr ∧ a = fc := by simpa using hb
      have hpts : f = pts := by
        cases m with
        | zero => cases hg
        | succ m =>
          unfold walkGo at hg
          rw [if_pos hb'] at hg
          exact Option.some.inj hg
      subst hpts
      refine s_ret (ev_var rfl) fun H9 e9 => q _ H9 (b4.trans (e7.trans (e8.trans e9))) ⟨p, qs, rfl, fresh_back b4 hp, e9 _ _ (e8 _ _ h7), hps.mono (e8.trans e9)⟩

/-! ### the script, the law's promise -/
def ScriptOk (ns : List Int) : Prop := ns.length ≤ 63 ∧ ∀ z ∈ ns, Builtin.Int.intBits z ≤ 1048576
def sp_law (K : PySem.W.Frag) : Sp := fun vs H Q _ => ∃ a ns, vs = [.ref a] ∧ SqL K H a ((ns : List Int).map V.int) ∧ ScriptOk ns ∧ ∀ H', Q (.bl true) H'
theorem cutTo (xs : List V) (n : Nat) : cutV xs none (some (n : Int)) = xs.take n := by
  unfold cutV
  rw [HT.sIx_none, HT.sIx_nat, List.drop_zero, Nat.sub_zero]
  rcases Nat.le_total n xs.length with h | h
  · rw [Nat.min_eq_left h]
  · rw [Nat.min_eq_right h, List.take_of_length_le h, List.take_length]
/-- sum(script[:63]) -/
theorem ev_sum63 {K : PySem.W.Frag} {σ : L2.St} {H : Hp} {a : Addr} {ns : List Int} (h0 : σ[0]? = some (some (.ref a))) (hn : SqL K H a (ns.map V.int)) : Ev (tCB (rSum K) (tCons (tSl (rSlL K) (tVar 0) tNoPart (tPart (tC (.int 63)))) tNil)) σ H (.int (ns.take 63).sum) := by
  have sl := el_sl (K := K) (te := tVar 0) (σ := σ) (H := H) (hi := some 63) (ev_var (i := 0) h0) eo_none (eo_some ev_c) hn
  rw [show (some (63 : Int)) = some ((63 : Nat) : Int) from rfl, cutTo, ← List.map_take] at sl
  exact ev_sumS (es_new sl)

/-! ### data that avoids an address; rows copied; answers' classes -/
def del (H : Hp) (l : Addr) : Hp := fun a => if a = l then none else H a
theorem del_self {H : Hp} {l : Addr} : del H l l = none := if_pos rfl
theorem del_ne {H : Hp} {l a : Addr} (h : a ≠ l) : del H l a = H a := if_neg h
theorem del_ex (H : Hp) (l : Addr) : Ex (del H l) H := fun a o h => by
  by_cases e : a = l
  · rw [e, del_self] at h; cases h
  · rw [del_ne e] at h; exact h
theorem del_mono {H H' : Hp} (l : Addr) (e : Ex H H') : Ex (del H l) (del H' l) := fun a o h => by
  by_cases e1 : a = l
  · rw [e1, del_self] at h; cases h
  · rw [del_ne e1] at h ⊢; exact e _ _ h
theorem ex_del {H H' : Hp} {l : Addr} (hl : H l = none) (e : Ex H H') : Ex H (del H' l) := fun a o h => by
  rw [del_ne (ne_of_none h hl)]
  exact e _ _ h
theorem del_upd (H : Hp) (l : Addr) (o : HO) : del (upd H l o) l = del H l := by
  funext a
  by_cases e : a = l
  · rw [e, del_self, del_self]
  · rw [del_ne e, del_ne e, upd_ne e]
mutual
/-- every list in it is shorter than n -/
def shortD (n : Nat) : PyData → Bool
  | .list xs => decide (xs.length < n) && shortAll n xs
  | .tuple xs => shortAll n xs
  | _ => true
def shortAll (n : Nat) : List PyData → Bool
  | [] => true
  | x :: xs => shortD n x && shortAll n xs
end
mutual
theorem dp_del {K : PySem.W.Frag} {H : Hp} {l : Addr} {zs : List V} {n : Nat} (hl : H l = some (.lst zs)) (hz : n ≤ zs.length) : ∀ {v : V} {d : PyData}, Dp K H v d → shortD n d = true → Dp K (del H l) v d
  | _, _, .non, _ => .non
  | _, _, .bl b, _ => .bl b
  | _, _, .int i, _ => .int i
  | _, _, .str x, _ => .str x
  | _, _, @Dp.lst _ _ a xs ds h hs, hn => by
    rw [shortD, Bool.and_eq_true, decide_eq_true_eq] at hn
    have len := dpAll_len hs
    refine .lst ?_ (dpAll_del hl hz hs hn.2)
    rcases h with (h | ⟨o, h⟩) | h
    · have ne : a ≠ l := fun e => by
        rw [e, hl] at h
        have := HO.lst.inj (Option.some.inj h)
        rw [this] at hz
        omega
      exact .inl (.inl (by rw [del_ne ne]; exact h))
    · have ne : a ≠ l := fun e => by rw [e, hl] at h; cases h
      exact .inl (.inr ⟨o, by rw [del_ne ne]; exact h⟩)
    · exact .inr h
  | _, _, @Dp.tup _ _ a xs ds h hs, hn => by
    rw [shortD] at hn
    refine .tup ?_ (dpAll_del hl hz hs hn)
    rcases h with (h | ⟨o, h⟩) | h
    · have ne : a ≠ l := fun e => by rw [e, hl] at h; cases h
      exact .inl (.inl (by rw [del_ne ne]; exact h))
    · have ne : a ≠ l := fun e => by rw [e, hl] at h; cases h
      exact .inl (.inr ⟨o, by rw [del_ne ne]; exact h⟩)
    · exact .inr h
theorem dpAll_del {K : PySem.W.Frag} {H : Hp} {l : Addr} {zs : List V} {n : Nat} (hl : H l = some (.lst zs)) (hz : n ≤ zs.length) : ∀ {vs : List V} {ds : List PyData}, DpAll K H vs ds → shortAll n ds = true → DpAll K (del H l) vs ds
  | _, _, .nil, _ => .nil
  | _, _, .cons h hs, hn => by
    rw [shortAll, Bool.and_eq_true] at hn
    exact .cons (dp_del hl hz h hn.1) (dpAll_del hl hz hs hn.2)
end
theorem dpAll_append {K : PySem.W.Frag} {H : Hp} : ∀ {vs us : List V} {ds es : List PyData}, DpAll K H vs ds → DpAll K H us es → DpAll K H (vs ++ us) (ds ++ es)
  | [], _, [], _, .nil, h => h
  | _ :: _, _, _ :: _, _, .cons g gs, h => .cons g (dpAll_append gs h)
theorem dpAll_get {K : PySem.W.Frag} {H : Hp} : ∀ {vs : List V} {ds : List PyData} {i : Nat} {v : V}, DpAll K H vs ds → vs[i]? = some v → ∃ d, ds[i]? = some d ∧ Dp K H v d
  | _ :: _, _ :: _, 0, _, .cons h _, e => by
    have := Option.some.inj e
    subst this
    exact ⟨_, rfl, h⟩
  | _ :: _, _ :: _, i + 1, v, .cons _ hs, e => dpAll_get (i := i) (v := v) hs e
/-- rows from data -/
theorem ints_of_dp {K : PySem.W.Frag} {H : Hp} : ∀ {vs : List V} {ns : List Int}, DpAll K H vs (ns.map PyData.int) → vs = ns.map V.int
  | _, [], .nil => rfl
  | _, n :: ns, .cons h hs => by
    cases h
    rw [ints_of_dp hs]
    rfl
theorem row_of_dp {K : PySem.W.Frag} {H : Hp} {v : V} {ns : List Int} (h : Dp K H v (dI ns)) : ∃ r, v = .ref r ∧ SqL K H r (ns.map V.int) := by
  unfold dI at h
  cases h with
  | lst hs ha =>
    rw [ints_of_dp ha] at hs
    exact ⟨_, rfl, hs⟩
theorem rows_of_dpAll {K : PySem.W.Frag} {H : Hp} : ∀ {vs : List V} {nss : List (List Int)}, DpAll K H vs (nss.map dI) → ∃ rs, vs = rs.map V.ref ∧ Paired (fun (r : Addr) (ns : List Int) => SqL K H r (ns.map V.int)) rs nss
  | _, [], .nil => ⟨[], rfl, .nil⟩
  | _, ns :: nss, .cons h hs => by
    obtain ⟨r, rfl, hr⟩ := row_of_dp h
    obtain ⟨rs, rfl, hp⟩ := rows_of_dpAll hs
    exact ⟨r :: rs, rfl, .cons hr hp⟩
theorem rows_of_dp {K : PySem.W.Frag} {H : Hp} {v : V} {nss : List (List Int)} (h : Dp K H v (dII nss)) : ∃ a, v = .ref a ∧ RowsAt K H a nss := by
  unfold dII at h
  cases h with
  | lst hs ha =>
    obtain ⟨rs, rfl, hp⟩ := rows_of_dpAll ha
    exact ⟨_, rfl, rs, hs, hp⟩
section
variable {K : PySem.W.Frag} {σ : L2.St} {H H' : Hp} {ta tb te tl : TE} {tr : TA} {t : TT} {D : Ends} {tu tz : TS} {d : PyData} {ds es : List PyData}
/-- [list(row) for row in rows] -/
theorem ep_copyRows {j : Nat} {vs : List Nat} {a : Addr} {nss : List (List Int)} (h : Ev tl σ H (.ref a)) (hr : RowsAt K H a nss) (hz : nss.length ≤ 40000) (hw : ∀ x, wipe ((wipe σ vs).set j (some x)) vs = wipe σ vs) (hj : ∀ x : V, ((wipe σ vs).set j (some x))[j]? = some (some x)) :
    EvP (tLc (iList K tl) (gName j) tYes (tCB (rListS K) (tCons (tVar j) tNil)) vs) σ H (fun H1 v H2 => NewLL H1 v H2 (ints2 nss)) := fun H0 e Q q => h H0 e _ fun H1 e1 => by
  obtain ⟨rs, h1, h2⟩ := hr.mono (e.trans e1)
  have ln : (rs.map V.ref).length = nss.length := by rw [List.length_map]; exact Paired.length h2
  refine ⟨a, rfl, ⟨_, h1⟩, fun Dl hD => lc_list (xs := rs.map V.ref) (fun n H' => H1 Dl = none ∧ Ex H1 H' ∧ ∃ bs : List (Addr × List Int), H' Dl = some (.lst (bs.map toV)) ∧ bs.map (·.2) = nss.take n ∧ ∀ b ∈ bs, (H1 b.1 = none ∧ b.1 ≠ Dl) ∧ H' b.1 = some (.lst (b.2.map V.int))) ⟨hD, Ex.new hD, [], upd_same, rfl, fun b hb => nomatch hb⟩ (fun i H' _ p => ex_l p.2.1 h1) (fun i x H' hi p => ?_) (fun H' p => ?_)⟩
  · rw [List.getElem?_map] at hi
    obtain ⟨r, hri, rfl⟩ := Option.map_eq_some_iff.mp hi
    obtain ⟨ns, hns, hs⟩ := paired_get h2 hri
    obtain ⟨p1, p2, bs, p3, p4, p5⟩ := p
    have bl : bs.length ≤ nss.length := by
      have := congrArg List.length p4
      rw [List.length_map, List.length_take] at this
      omega
    refine ⟨hw _, ?_⟩
    show tCB (rListS K) (tCons (tVar j) tNil) _ H' _
    refine el_listS (K := K) (es_of (ev_var (hj _)) (ex_l p2 hs)) H' (Ex.refl H') _ fun q' H3 hq e3 h3 => ?_
    have ne : q' ≠ Dl := (ne_of_none p3 hq).symm
    refine ⟨_, e3 _ _ p3, sz_lt (by rw [List.length_map]; omega), p1, Ex.mut (p2.trans e3) p1, bs ++ [(q', ns)], ?_, ?_, fun b hb => ?_⟩
    · rw [upd_same, List.map_append]; rfl
    · rw [List.map_append, p4, take_snoc hns]; rfl
    · rcases List.mem_append.mp hb with hb | hb
      · have z := p5 b hb
        refine ⟨z.1, ?_⟩
        rw [upd_ne z.1.2]
        exact e3 _ _ z.2
      · have : b = (q', ns) := by simpa using hb
        subst this
        exact ⟨⟨fresh_back p2 hq, ne⟩, by rw [upd_ne ne]; exact h3⟩
  · rw [ln, List.take_length] at p
    obtain ⟨p1, p2, bs, p3, rfl, p5⟩ := p
    exact q _ H' (e1.trans p2) (NewLL.of (fresh_back e1 p1) p3 fun b hb => ⟨fresh_back e1 (p5 b hb).1.1, (p5 b hb).2⟩)
/-- x = [data, ..] -/
theorem q_asgLD {i : Nat} (h : EvAD K tr σ H ds) (hl : ds.length ≤ 1000) (k : ∀ p vs H1, H p = none → Ex H H1 → H1 p = some (.lst vs) → DpAll K (del H1 p) vs ds → tz D (σ.set i (some (.ref p))) H1) : tSeq (tAsg (tLst tr) (gName i)) tz D σ H :=
  h H (Ex.refl H) _ fun vs H1 e hs => ⟨sz_of (by rw [dpAll_len hs]; omega), fun p hp => k p vs _ (fresh_back e hp) (e.trans (Ex.new hp)) upd_same (by rw [del_upd]; exact DpAll.mono (ex_del hp (Ex.refl H1)) hs)⟩
/-- x = y + [data, ..] -/
theorem s_catLD {i : Nat} {f : Addr} {vs : List V} (hf : H f = some (.lst vs)) (hd : DpAll K (del H f) vs ds) (ha : Ev ta σ H (.ref f)) (h : EvAD K tr σ H es) (hl : ds.length + es.length ≤ 1000) (k : ∀ p us H1, H p = none → Ex H H1 → H1 p = some (.lst us) → DpAll K (del H1 p) us (ds ++ es) → D.nx (σ.set i (some (.ref p))) H1) :
    tAsg (tOp rCat ta (tLst tr)) (gName i) D σ H :=
  ha H (Ex.refl H) _ fun H1 e1 => h H1 e1 _ fun us H2 e2 hs => ⟨sz_of (by rw [dpAll_len hs]; omega), fun b hb => ⟨f, b, vs, us, rfl, rfl, Ex.new hb _ _ (e2 _ _ (e1 _ _ hf)), upd_same, sz_of (by rw [dpAll_len hs, dpAll_len hd]; omega), fun p hp => by
    have e3 : Ex H2 (upd H2 b (.lst us)) := Ex.new hb
    have e13 := (e1.trans e2).trans e3
    refine k p _ _ (fresh_back e13 hp) (e13.trans (Ex.new hp)) upd_same ?_
    rw [del_upd]
    have e4 := ex_del hp (Ex.refl (upd H2 b (.lst us)))
    exact DpAll.mono e4 (dpAll_append (DpAll.mono ((del_ex H f).trans e13) hd) (DpAll.mono e3 hs))⟩⟩
theorem q_catLD {i : Nat} {f : Addr} {vs : List V} (hf : H f = some (.lst vs)) (hd : DpAll K (del H f) vs ds) (ha : Ev ta σ H (.ref f)) (h : EvAD K tr σ H es) (hl : ds.length + es.length ≤ 1000) (k : ∀ p us H1, H p = none → Ex H H1 → H1 p = some (.lst us) → DpAll K (del H1 p) us (ds ++ es) → tz D (σ.set i (some (.ref p))) H1) :
    tSeq (tAsg (tOp rCat ta (tLst tr)) (gName i)) tz D σ H := s_catLD (D := { D with nx := tz D }) hf hd ha h hl k
/-- y + [data, ..] as data -/
theorem ed_cat {f : Addr} {vs : List V} (hf : H f = some (.lst vs)) (hd : DpAll K (del H f) vs ds) (ha : Ev ta σ H (.ref f)) (h : EvAD K tr σ H es) (hl : ds.length + es.length ≤ 1000) : EvD K (tOp rCat ta (tLst tr)) σ H (.list (ds ++ es)) := fun H0 e0 Q q =>
  ha H0 e0 _ fun H1 e1 => h H1 (e0.trans e1) _ fun us H2 e2 hs => ⟨sz_of (by rw [dpAll_len hs]; omega), fun b hb => ⟨f, b, vs, us, rfl, rfl, Ex.new hb _ _ (e2 _ _ (e1 _ _ (e0 _ _ hf))), upd_same, sz_of (by rw [dpAll_len hs, dpAll_len hd]; omega), fun p hp => by
    have e3 : Ex H2 (upd H2 b (.lst us)) := Ex.new hb
    refine q _ _ (((e1.trans e2).trans e3).trans (Ex.new hp)) (.lst (sq_of upd_same) ?_)
    exact DpAll.mono (Ex.new hp) (dpAll_append (DpAll.mono ((del_ex H f).trans (((e0.trans e1).trans e2).trans e3)) hd) (DpAll.mono e3 hs))⟩⟩
/-- xs.append(e), e any result -/
theorem s_appP {l : Addr} {xs : List V} {R : Hp → V → Hp → Prop} (hl : H l = some (.lst xs)) (ha : Ev ta σ H (.ref l)) (h : EvP te σ H R) (hR : ∀ {H0 H1 v H2}, Ex H0 H1 → R H1 v H2 → R H0 v H2) (hz : xs.length < 100000) (k : ∀ v H1, Ex H H1 → R H v H1 → D.nx σ (upd H1 l (.lst (xs ++ [v])))) :
    tDrop (tBM K "list" rAppend ta (tCons te tNil)) D σ H := ha H (Ex.refl H) _ fun H1 e1 =>
  ⟨Or.inl ⟨rfl, xs, sq_of (e1 l _ hl)⟩, h H1 e1 _ fun v H2 e2 z => ⟨l, xs, v, rfl, rfl, e2 l _ (e1 l _ hl), sz_lt hz, k v H2 (e1.trans e2) (hR e1 z)⟩⟩
theorem q_appP {l : Addr} {xs : List V} {R : Hp → V → Hp → Prop} (hl : H l = some (.lst xs)) (ha : Ev ta σ H (.ref l)) (h : EvP te σ H R) (hR : ∀ {H0 H1 v H2}, Ex H0 H1 → R H1 v H2 → R H0 v H2) (hz : xs.length < 100000) (k : ∀ v H1, Ex H H1 → R H v H1 → tz D σ (upd H1 l (.lst (xs ++ [v])))) :
    tSeq (tDrop (tBM K "list" rAppend ta (tCons te tNil))) tz D σ H := s_appP (D := { D with nx := tz D }) hl ha h hR hz k
/-- [e] * k -/
theorem el_rep {n : Nat} {xs : List V} (ha : EvL ta σ H xs) (hb : Ev tb σ H (.int (n : Int))) (hn : n ≤ 1000) (hl : xs.length ≤ 90) : EvL (tOp rRep ta tb) σ H (List.replicate n xs).flatten := fun H1 e Q q =>
  ha H1 e _ fun p H2 hp e2 h2 => hb H2 (e.trans e2) _ fun H3 e3 => ⟨p, (n : Int), xs, rfl, rfl, e3 _ _ h2, by omega, by omega, sz_of (by rw [Int.toNat_natCast]; exact Nat.le_trans (Nat.mul_le_mul hl hn) (by decide)), fun l hl => by
    rw [Int.toNat_natCast]
    exact q l _ (fresh_back (e2.trans e3) hl) ((e2.trans e3).trans (Ex.new hl)) upd_same⟩
end
/-! ### the classes of answers -/
structure Ci (K : PySem.W.Frag) (c : Addr) : Prop where
  cl : Cls K c
  ha : PySem.W.findIn K (.ref c) "__class__" = some (some (.builtin "object.__class__"))
  hn : PySem.W.specialIn K (.builtin "object.__class__") "__get__" = some (some (.builtin "getset_descriptor.__get__"))
  htk : PySem.W.takesIn K (.builtin "object.__class__") = some true
  hm : PySem.W.mroIn K c (.type "object") = some true
theorem Ci.ty {K : PySem.W.Frag} {H : Hp} {a c dx : Addr} {fs : List (Str × V)} (k : Ci K c) (h : H a = some (.ins c dx fs)) : TyX K H (.ref a) (.ref c) := .base (.ins h k.cl k.ha k.hn k.htk k.hm)
theorem ev_isiC {K : PySem.W.Frag} {σ : L2.St} {H : Hp} {ta : TE} {a c dx e : Addr} {fs : List (Str × V)} {b : Bool} (ha : Ev ta σ H (.ref a)) (h : H a = some (.ins c dx fs)) (k : Ci K c) (hk : PySem.W.kitOne K (.ref c) (.ref e) = some b) : Ev (tCB (rIsi K) (tCons ta (tCons (tC (.ref e)) tNil))) σ H (.bl b) :=
  ev_isi ha ev_c (.own e) (fun _ x => k.ty (x _ _ h)) hk
theorem ep_numbersS {K : PySem.W.Frag} {C : Ad} {σ : L2.St} {H : Hp} {ta tb : TE} {E : XK} {h w : Nat} {cs : List Int} (ha : EvST K ta σ H [.int (h : Int), .int (w : Int)]) (gk : GOk h w) (hc : EvS K tb σ H (cs.map V.int)) (ck : COk h w cs) :
    EvP (tCall (sp_numbers K C) [] E (tCons ta (tCons tb tNil))) σ H (fun H1 v H2 => NewLL H1 v H2 (ints2 (numbersOf h w cs))) := fun H1 e Q q =>
  ha H1 e _ fun g H2 e2 hg => hc H2 (e.trans e2) _ fun c H3 e3 hc3 => ⟨_, _, rfl, .inr ⟨g, h, w, rfl, ex_t e3 hg, gk, .inr ⟨c, cs, rfl, hc3, ck, fun v H4 e4 z => q v H4 ((e2.trans e3).trans e4) (z.back (e2.trans e3))⟩⟩⟩
theorem cok_by {h w : Nat} {cs : List Int} (d : (decide (cs ≠ []) && (cs.all fun x => decide (0 ≤ x ∧ x < (h : Int) * w)) && !falls cs) = true) : COk h w cs := by
  simp only [Bool.and_eq_true, decide_eq_true_eq, List.all_eq_true, Bool.not_eq_true'] at d
  exact ⟨d.1.1, fun x hx => d.1.2 x hx, (falls_rising cs).mp d.2⟩
def dPts (pts : List (Int × Int)) : PyData := .list (pts.map fun p => dP p.1 p.2)
theorem dpAll_prs {K : PySem.W.Frag} {H : Hp} : ∀ {qs : List Addr} {pts : List (Int × Int)}, Prs K H qs pts → DpAll K H (qs.map V.ref) (pts.map fun p => dP p.1 p.2)
  | [], [], .nil => .nil
  | _ :: _, _ :: _, .cons h hs => .cons (pair_dp h) (dpAll_prs hs)
theorem NewPts.dp {K : PySem.W.Frag} {pts : List (Int × Int)} {H1 H2 : Hp} {v : V} (h : NewPts K pts H1 v H2) : Dp K H2 v (dPts pts) := by
  obtain ⟨p, qs, rfl, hp, h2, h3⟩ := h
  exact .lst (sq_of h2) (dpAll_prs h3)
theorem walkGo_len {h w : Nat} {cs : List Int} {fr fc : Int} : ∀ (k : Nat) (f : List (Int × Int)) (t : Nat) (r c : Int) {pts : List (Int × Int)}, walkGo h w cs fr fc k f t r c = some pts → pts.length ≤ f.length + k
  | 0, _, _, _, _, _, h => nomatch h
  | k + 1, f, t, r, c, pts, hg => by
    unfold walkGo at hg
    split at hg
    · have := Option.some.inj hg
      rw [← this]
      omega
    · cases hw : ways h w cs r c t with
      | nil => rw [hw] at hg; cases hg
      | cons y ys =>
        rw [hw] at hg
        have := walkGo_len k _ _ _ _ hg
        rw [List.length_append] at this
        simp at this
        omega
theorem walkOf_len {h w : Nat} {cs : List Int} {pts : List (Int × Int)} (hw : walkOf h w cs = some pts) : pts.length ≤ 201 := walkGo_len 200 _ _ _ _ hw
theorem sort_eq {l s : List (List Int)} (hp : l.Perm s) (hs : s.Pairwise (· ≤ ·)) : (l.mergeSort fun p q => decide (p ≤ q)) = s := by
  have p1 : (l.mergeSort fun p q => decide (p ≤ q)).Perm s := (List.mergeSort_perm l _).trans hp
  have s1 : (l.mergeSort fun p q => decide (p ≤ q)).Pairwise (fun a b => decide (a ≤ b) = true) := List.pairwise_mergeSort (fun a b c h1 h2 => by
    simp only [decide_eq_true_eq] at h1 h2 ⊢
    exact List.le_trans h1 h2) (fun a b => by
    simp only [Bool.or_eq_true, decide_eq_true_eq]
    exact List.le_total a b) l
  exact p1.eq_of_pairwise (fun a b _ _ h1 h2 => List.le_antisymm h1 h2) (s1.imp fun h => of_decide_eq_true h) hs

/-! ### points and sides in the heap; dicts of them -/
open Sd.J
theorem hu60 {A : Around} {k : Nat} (hr : Room k A) : A.units + 60 < cLine := by
  have := hr.un
  omega
def PtAt (H : Hp) (a : Addr) (p : Pt) : Prop := H a = some (.tup [.int p.1, .int p.2])
def SdAt (H : Hp) (a : Addr) (u : Sd2) : Prop := ∃ p q, H a = some (.tup [.ref p, .ref q]) ∧ PtAt H p u.1 ∧ PtAt H q u.2
/-- tuples stay -/
def TEx (H H' : Hp) : Prop := ∀ a vs, H a = some (.tup vs) → H' a = some (.tup vs)
theorem TEx.of {H H' : Hp} (e : Ex H H') : TEx H H' := fun a vs h => e a _ h
theorem TEx.trans {H H1 H2 : Hp} (e : TEx H H1) (e' : TEx H1 H2) : TEx H H2 := fun a vs h => e' a vs (e a vs h)
theorem TEx.upd {H : Hp} {d : Addr} {o o' : HO} (h : H d = some o) (ho : ∀ vs, o ≠ .tup vs) : TEx H (upd H d o') := fun a vs ha => by
  have : a ≠ d := fun e => by
    subst e
    rw [h] at ha
    exact ho vs (Option.some.inj ha)
  rw [upd_ne this]
  exact ha
theorem PtAt.mono {H H' : Hp} (e : TEx H H') {a : Addr} {p : Pt} (h : PtAt H a p) : PtAt H' a p := e _ _ h
theorem SdAt.mono {H H' : Hp} (e : TEx H H') {a : Addr} {u : Sd2} (h : SdAt H a u) : SdAt H' a u := by
  obtain ⟨p, q, h1, h2, h3⟩ := h
  exact ⟨p, q, e _ _ h1, h2.mono e, h3.mono e⟩
def kPt (p : Pt) : NestedKey := .tup [.num p.1, .num p.2]
def kSd (u : Sd2) : NestedKey := .tup [kPt u.1, kPt u.2]
theorem PtAt.nk {H : Hp} {a : Addr} {p : Pt} (h : PtAt H a p) : NK H (kPt p) (.ref a) := .tup h (.cons (.num _) (.cons (.num _) .nil))
theorem SdAt.nk {H : Hp} {a : Addr} {u : Sd2} (h : SdAt H a u) : NK H (kSd u) (.ref a) := by
  obtain ⟨p, q, h1, h2, h3⟩ := h
  exact .tup h1 (.cons h2.nk (.cons h3.nk .nil))
theorem kPt_inj {p q : Pt} (h : kPt p = kPt q) : p = q := by
  unfold kPt at h
  injection h with h
  injection h with h1 h2
  injection h2 with h2 _
  injection h1 with h1
  injection h2 with h2
  exact Prod.ext h1 h2
theorem kSd_inj {u v : Sd2} (h : kSd u = kSd v) : u = v := by
  unfold kSd at h
  injection h with h
  injection h with h1 h2
  injection h2 with h2 _
  exact Prod.ext (kPt_inj h1) (kPt_inj h2)
theorem kPt_dp (p : Pt) : (kPt p).depth ≤ 8 := by
  unfold kPt
  simp [NestedKey.depth, NestedKey.depthAll]
theorem kSd_dp (u : Sd2) : (kSd u).depth ≤ 8 := by
  unfold kSd kPt
  simp [NestedKey.depth, NestedKey.depthAll]
section
variable {K : PySem.W.Frag} {w : World} {σ : L2.St} {H H' : Hp} {ta tb te td ty tx : TE} {tr : TA} {t : TT} {D : Ends} {tz : TS} {x y v : V} {d a : Addr} {k : NestedKey} {kas : List Ent}
theorem rd_ex {o : HO} (e : Ex H H') (h : Rd H d o) : Rd H' d o := h.elim (fun h => .inl (e _ _ h)) (fun ⟨u, h⟩ => .inr ⟨u, e _ _ h⟩)
theorem ev_getN (hd : Ev td σ H (.ref d)) (hy : Ev ty σ H (.ref a)) (hr : Rd H d (DN w d kas)) (hk : Keys H kas) (hn : NK H k (.ref a)) (hp : k.depth ≤ 8) (hv : valE kas k = some v) : Ev (tGetN w td ty) σ H v := fun H1 e Q q =>
  hd H1 e _ fun H2 e2 => hy H2 (e.trans e2) _ fun H3 e3 =>
    have e' := (e.trans e2).trans e3
    ⟨d, kas, k, a, v, rfl, rfl, rd_ex e' hr, hk.mono e', hn.mono e', hp, hv, q H3 (e2.trans e3)⟩
theorem ev_get2N (hd : Ev td σ H (.ref d)) (hy : Ev ty σ H (.ref a)) (hx : Ev tx σ H x) (hr : Rd H d (DN w d kas)) (hk : Keys H kas) (hn : NK H k (.ref a)) (hp : k.depth ≤ 8) : Ev (tGet2N w td ty tx) σ H ((valE kas k).getD x) := fun H1 e Q q =>
  hd H1 e _ fun H2 e2 => ⟨d, kas, rfl, rd_ex (e.trans e2) hr, hy H2 (e.trans e2) _ fun H3 e3 => hx H3 ((e.trans e2).trans e3) _ fun H4 e4 =>
    have e' := ((e.trans e2).trans e3).trans e4
    ⟨kas, k, a, rfl, rd_ex e' hr, hk.mono e', hn.mono e', hp, q H4 ((e2.trans e3).trans e4)⟩⟩
theorem s_putN (hv : Ev te σ H v) (hd : Ev td σ H (.ref d)) (hy : Ev ty σ H (.ref a)) (hr : H d = some (DN w d kas)) (hk : Keys H kas) (hn : NK H k (.ref a)) (hp : k.depth ≤ 8) (hl : kas.length < 100000) (c : ∀ H1, Ex H H1 → D.nx σ (upd H1 d (DN w d (putE kas k a v)))) : sPutN w td ty te D σ H :=
  hv H (Ex.refl H) _ fun H1 e1 => hd H1 e1 _ fun H2 e2 => hy H2 (e1.trans e2) _ fun H3 e3 =>
    have e' := (e1.trans e2).trans e3
    ⟨d, kas, k, a, rfl, rfl, e' _ _ hr, hk.mono e', hn.mono e', hp, sz_lt hl, c H3 e'⟩
/-- a new dict -/
theorem q_dnew {i : Nat} (c : ∀ p H1, H p = none → Ex H H1 → H1 p = some (DN w p []) → tz D (σ.set i (some (.ref p))) H1) : tSeq (tAsg (tDNew w) (gName i)) tz D σ H := fun p hp => c p _ hp (Ex.new hp) upd_same
/-! points and sides made -/
def EvPt (te : TE) (σ : L2.St) (H : Hp) (p : Pt) : Prop := ∀ H1, Ex H H1 → ∀ Q : VK, (∀ a H2, Ex H1 H2 → PtAt H2 a p → Q (.ref a) H2) → te σ H1 Q
def EvSd (te : TE) (σ : L2.St) (H : Hp) (u : Sd2) : Prop := ∀ H1, Ex H H1 → ∀ Q : VK, (∀ a H2, Ex H1 H2 → SdAt H2 a u → Q (.ref a) H2) → te σ H1 Q
def EvASd (ta : TA) (σ : L2.St) (H : Hp) (us : List Sd2) : Prop := ∀ H1, Ex H H1 → ∀ Q : List V → Hp → Prop, (∀ as H2, Ex H1 H2 → Paired (SdAt H2) as us → Q (as.map V.ref) H2) → ta σ H1 Q
theorem ept {i j : Int} (h1 : Ev ta σ H (.int i)) (h2 : Ev tb σ H (.int j)) : EvPt (tTup (tCons ta (tCons tb tNil))) σ H (i, j) := fun H1 e Q q =>
  h1 H1 e _ fun H2 e2 => h2 H2 (e.trans e2) _ fun H3 e3 => ⟨sz_of (by simp), fun p hp => q p _ ((e2.trans e3).trans (Ex.new hp)) upd_same⟩
theorem esd {p q : Pt} (h1 : EvPt ta σ H p) (h2 : EvPt tb σ H q) : EvSd (tTup (tCons ta (tCons tb tNil))) σ H (p, q) := fun H1 e Q c =>
  h1 H1 e _ fun a H2 e2 z1 => h2 H2 (e.trans e2) _ fun b H3 e3 z2 => ⟨sz_of (by simp), fun s hs => c s _ ((e2.trans e3).trans (Ex.new hs)) ⟨a, b, upd_same, z1.mono (.of (e3.trans (Ex.new hs))), z2.mono (.of (Ex.new hs))⟩⟩
theorem sds_mono (e : TEx H H') {as : List Addr} {us : List Sd2} (h : Paired (SdAt H) as us) : Paired (SdAt H') as us := Paired.mapP h fun _ _ z => z.mono e
theorem pts_mono (e : TEx H H') {as : List Addr} {us : List Pt} (h : Paired (PtAt H) as us) : Paired (PtAt H') as us := Paired.mapP h fun _ _ z => z.mono e
theorem eas_nil : EvASd tNil σ H [] := fun H1 _ _ q => q [] H1 (Ex.refl H1) .nil
theorem eas_cons {u : Sd2} {us : List Sd2} (h : EvSd ta σ H u) (hr : EvASd tr σ H us) : EvASd (tCons ta tr) σ H (u :: us) := fun H1 e _ q =>
  h H1 e _ fun a H2 e2 z => hr H2 (e.trans e2) _ fun as H3 e3 zs => q (a :: as) H3 (e2.trans e3) (.cons (z.mono (.of e3)) zs)
theorem q_asgSds {i : Nat} {us : List Sd2} (h : EvASd tr σ H us) (hl : us.length ≤ 1000) (c : ∀ p as H1, H p = none → Ex H H1 → H1 p = some (.lst (as.map V.ref)) → Paired (SdAt H1) as us → tz D (σ.set i (some (.ref p))) H1) : tSeq (tAsg (tLst tr) (gName i)) tz D σ H :=
  h H (Ex.refl H) _ fun as H1 e z => ⟨sz_of (by rw [List.length_map, Paired.length z]; omega), fun p np => c p as _ (fresh_back e np) (e.trans (Ex.new np)) upd_same (sds_mono (.of (Ex.new np)) z)⟩
theorem paired_append {α β : Type} {F : α → β → Prop} : ∀ {l m : List α} {l' m' : List β}, Paired F l l' → Paired F m m' → Paired F (l ++ m) (l' ++ m')
  | _, _, _, _, .nil, h => h
  | _, _, _, _, .cons g gs, h => .cons g (paired_append gs h)
def EvLSd (te : TE) (σ : L2.St) (H : Hp) (us : List Sd2) : Prop := ∀ H1, Ex H H1 → ∀ Q : VK, (∀ p as H2, H1 p = none → Ex H1 H2 → H2 p = some (.lst (as.map V.ref)) → Paired (SdAt H2) as us → Q (.ref p) H2) → te σ H1 Q
theorem els_cat {l : Addr} {as : List Addr} {us vs : List Sd2} (hl : H l = some (.lst (as.map V.ref))) (hp : Paired (SdAt H) as us) (hv : Ev ta σ H (.ref l)) (h : EvASd tr σ H vs) (hz : us.length + vs.length ≤ 1000) : EvLSd (tOp rCat ta (tLst tr)) σ H (us ++ vs) := fun H1 e Q q =>
  hv H1 e _ fun H2 e2 => h H2 (e.trans e2) _ fun bs H3 e3 hb => ⟨sz_of (by rw [List.length_map, Paired.length hb]; omega), fun lb hlb =>
    have e4 : Ex H3 (upd H3 lb (.lst (bs.map V.ref))) := Ex.new hlb
    have e' := ((e.trans e2).trans e3).trans e4
    ⟨l, lb, as.map V.ref, bs.map V.ref, rfl, rfl, e' _ _ hl, upd_same, sz_of (by rw [List.length_map, List.length_map, Paired.length hp, Paired.length hb]; omega), fun p hp' =>
      q p (as ++ bs) _ (fresh_back ((e2.trans e3).trans e4) hp') (((e2.trans e3).trans e4).trans (Ex.new hp')) (by rw [upd_same, List.map_append]) (paired_append (sds_mono (.of (e'.trans (Ex.new hp'))) hp) (sds_mono (.of (e4.trans (Ex.new hp'))) hb))⟩⟩
theorem s_forSd {us : List Sd2} {g : TG} {tu : TS} (h : EvLSd te σ H us) (Pv : Addr → List Addr → Nat → L2.St → Hp → Prop) (h0 : ∀ p as H1, H p = none → Ex H H1 → H1 p = some (.lst (as.map V.ref)) → Paired (SdAt H1) as us → Pv p as 0 σ H1)
    (hl : ∀ p as i σ' H', Pv p as i σ' H' → H' p = some (.lst (as.map V.ref)) ∧ Paired (SdAt H') as us)
    (hs : ∀ p as i a u σ' H', us[i]? = some u → SdAt H' a u → Pv p as i σ' H' → g (.ref a) σ' H' fun σ2 H2 => tu { D with nx := Pv p as (i + 1), ct := Pv p as (i + 1), bk := D.nx } σ2 H2) (hd : ∀ p as σ' H', Pv p as us.length σ' H' → D.nx σ' H') : tFor (iList K te) g tu D σ H :=
  h H (Ex.refl H) _ fun p as H1 hp e h1 hpr => ⟨p, rfl, ⟨_, sq_of h1⟩, for_list (K := K) (xs := as.map V.ref) (Pv p as) (h0 p as H1 hp e h1 hpr) (fun i σ' H' _ z => sq_of (hl p as i σ' H' z).1)
    (fun i x σ' H' hi z => by
      rw [List.getElem?_map] at hi
      obtain ⟨a, ha, rfl⟩ := Option.map_eq_some_iff.mp hi
      obtain ⟨u, hu, hs'⟩ := L2.paired_get (hl p as i σ' H' z).2 ha
      exact hs p as i a u σ' H' hu hs' z) (fun σ' H' z => by
      rw [List.length_map, Paired.length hpr] at z
      exact hd p as σ' H' z)⟩
/-- over a dict's keys, the dict locked -/
theorem lc_N {d : Addr} {o : Obj} {kas : List Ent} {g : TG} {tt : TT} {te : TE} {vs : List Nat} {σ : L2.St} {H1 : Hp} {Dl : Addr} {Qd : Hp → Prop} (Pv : Nat → Hp → Prop) (h0 : Pv 0 (upd H1 Dl (.lst []))) (hl : ∀ i H, Pv i H → H d = some (.frz o (DN w d kas)))
    (hs : ∀ i e H, kas[i]? = some e → Pv i H → g (.ref e.2.1) (wipe σ vs) H fun σ2 H2 => wipe σ2 vs = wipe σ vs ∧ tt σ2 H2 fun b H3 =>
      if b = true then te σ2 H3 fun y H4 => ∃ acc, H4 Dl = some (.lst acc) ∧ acc.length < sizeLine ∧ Pv (i + 1) (upd H4 Dl (.lst (acc ++ [y]))) else Pv (i + 1) H3) (hd : ∀ H, Pv kas.length H → Qd H) :
    ∃ W : Nat → Nat → Hp → Prop, (∃ m, W 0 m (upd H1 Dl (.lst []))) ∧ ∀ i m H, W i m H →
      ((ItN w d o kas).stop i H ∧ Qd H) ∨ ((ItN w d o kas).go i H ∧ ∃ Nx : Hp → Prop, (∀ H', Nx H' → ∃ m', m' < m ∧ W (i + 1) m' H') ∧ ∀ x H', (ItN w d o kas).yld i H x H' → g x (wipe σ vs) H' fun σ2 H2 => wipe σ2 vs = wipe σ vs ∧ tt σ2 H2 fun b H3 =>
        if b = true then te σ2 H3 fun y H4 => ∃ acc, H4 Dl = some (.lst acc) ∧ acc.length < sizeLine ∧ Nx (upd H4 Dl (.lst (acc ++ [y]))) else Nx H3) := by
  refine ⟨fun i m H => m = kas.length - i ∧ i ≤ kas.length ∧ Pv i H, ⟨kas.length, by simp, Nat.zero_le _, h0⟩, ?_⟩
  rintro i m H ⟨rfl, hi, p⟩
  have q := hl i H p
  by_cases hlt : i < kas.length
  · refine .inr ⟨⟨q, hlt⟩, Pv (i + 1), fun H' p' => ⟨kas.length - (i + 1), by omega, rfl, hlt, p'⟩, fun x H' y => ?_⟩
    obtain ⟨rfl, e, he, rfl⟩ := y
    exact hs i e _ he p
  · have e : i = kas.length := by omega
    subst e
    exact .inl ⟨⟨q, Nat.le_refl _⟩, hd H p⟩
end
/-! ### counting -/
def entC (L : List Sd2) (e : Addr × Sd2) : Ent := (kSd e.2, e.1, .int ((L.count e.2 : Nat) : Int))
theorem valE_map {L : List Sd2} : ∀ {es : List (Addr × Sd2)} (u : Sd2), valE (es.map (entC L)) (kSd u) = if u ∈ es.map (·.2) then some (.int ((L.count u : Nat) : Int)) else none
  | [], u => rfl
  | e :: r, u => by
    have ih := valE_map (L := L) (es := r) u
    unfold valE at ih ⊢
    rw [List.map_cons, List.find?_cons]
    by_cases h : e.2 = u
    · have : decide ((entC L e).1 = kSd u) = true := decide_eq_true (by show kSd e.2 = kSd u; rw [h])
      rw [this, if_pos (by rw [List.map_cons, h]; exact List.mem_cons_self)]
      show some (V.int ((L.count e.2 : Nat) : Int)) = _
      rw [h]
    · have : decide ((entC L e).1 = kSd u) = false := decide_eq_false fun z => h (kSd_inj z)
      rw [this]
      dsimp only
      rw [ih]
      have : (u ∈ (e :: r).map (·.2)) ↔ u ∈ r.map (·.2) := by
        rw [List.map_cons, List.mem_cons]
        exact ⟨fun z => z.elim (fun z => absurd z.symm h) id, .inr⟩
      simp only [this]
theorem keys_C {H : Hp} {L : List Sd2} {es : List (Addr × Sd2)} (h : ∀ e ∈ es, SdAt H e.1 e.2) : Keys H (es.map (entC L)) := fun x hx => by
  obtain ⟨e, he, rfl⟩ := List.mem_map.mp hx
  exact ⟨(h e he).nk, kSd_dp _⟩
theorem putE_C {L : List Sd2} {es : List (Addr × Sd2)} {b : Addr} {u : Sd2} (hL : ∀ z, z ∈ es.map (·.2) ↔ z ∈ L) :
    putE (es.map (entC L)) (kSd u) b (.int ((L.count u : Int) + 1)) = (if u ∈ L then es else es ++ [(b, u)]).map (entC (L ++ [u])) := by
  have cnt : (L ++ [u]).count u = L.count u + 1 := by rw [List.count_append, List.count_singleton_self]
  have oth : ∀ z, z ≠ u → (L ++ [u]).count z = L.count z := fun z hz => by
    rw [List.count_append, List.count_singleton, if_neg (by simpa using hz.symm)]
    omega
  unfold putE
  rw [valE_map]
  by_cases h : u ∈ L
  · rw [if_pos ((hL u).mpr h), if_pos h]
    simp only [Option.isSome_some, if_true, List.map_map]
    refine List.map_congr_left fun e _ => ?_
    show (if (entC L e).1 = kSd u then _ else _) = _
    by_cases z : e.2 = u
    · rw [if_pos (by show kSd e.2 = _; rw [z])]
      show (kSd e.2, e.1, V.int _) = (kSd e.2, e.1, V.int _)
      rw [z, cnt]
      rfl
    · rw [if_neg (show ¬ (entC L e).1 = kSd u from fun y => z (kSd_inj y))]
      show (kSd e.2, e.1, V.int _) = (kSd e.2, e.1, V.int _)
      rw [oth _ z]
  · rw [if_neg (fun z => h ((hL u).mp z)), if_neg h]
    simp only [Option.isSome_none, Bool.false_eq_true, if_false, List.map_append, List.map_cons, List.map_nil]
    congr 1
    · refine List.map_congr_left fun e he => ?_
      have z : e.2 ≠ u := fun z => h ((hL u).mp (List.mem_map.mpr ⟨e, he, z⟩))
      show (kSd e.2, e.1, V.int _) = (kSd e.2, e.1, V.int _)
      rw [oth _ z]
    · show [(kSd u, b, V.int _)] = [(kSd u, b, V.int _)]
      rw [cnt]
      rfl
/-- the dict at d holds how often each side was met -/
def CInv (w : World) (H0 : Hp) (d : Addr) (L : List Sd2) (H : Hp) : Prop := ∃ es : List (Addr × Sd2), H d = some (DN w d (es.map (entC L))) ∧ Ex H0 H ∧ (∀ e ∈ es, SdAt H e.1 e.2) ∧ (es.map (·.2)).Nodup ∧ ∀ u, u ∈ es.map (·.2) ↔ u ∈ L
theorem CInv.mono {w : World} {H0 H H' : Hp} {d : Addr} {L : List Sd2} (e : Ex H H') (h : CInv w H0 d L H) : CInv w H0 d L H' := by
  obtain ⟨es, h1, h2, h3, h4, h5⟩ := h
  exact ⟨es, e _ _ h1, h2.trans e, fun x hx => (h3 x hx).mono (.of e), h4, h5⟩
theorem dn_notup {w : World} {d : Addr} {kas : List Ent} : ∀ vs, DN w d kas ≠ .tup vs := fun vs h => by cases h
theorem s_count {w : World} {H0 H : Hp} {σ : L2.St} {D : Ends} {d b : Addr} {L : List Sd2} {u : Sd2} {i j : Nat} (hd0 : H0 d = none) (ci : CInv w H0 d L H) (hl : L.length < 1000) (hd : σ[i]? = some (some (.ref d))) (hb : σ[j]? = some (some (.ref b))) (hu : SdAt H b u)
    (c : ∀ H1, CInv w H0 d (L ++ [u]) H1 → TEx H H1 → (∀ a o, a ≠ d → H a = some o → H1 a = some o) → D.nx σ H1) : sPutN w (tVar i) (tVar j) (tOp oAdd (tGet2N w (tVar i) (tVar j) (tC (.int 0))) (tC (.int 1))) D σ H := by
  obtain ⟨es, h1, h2, h3, h4, h5⟩ := ci
  have lenE : es.length ≤ L.length := by
    have := nodup_len h4 fun o ho => (h5 o).mp ho
    rwa [List.length_map] at this
  have val : (valE (es.map (entC L)) (kSd u)).getD (.int 0) = .int ((L.count u : Nat) : Int) := by
    rw [valE_map]
    by_cases z : u ∈ es.map (·.2)
    · rw [if_pos z]; rfl
    · rw [if_neg z, List.count_eq_zero.mpr (fun y => z ((h5 u).mpr y))]
      rfl
  have g := ev_get2N (w := w) (σ := σ) (H := H) (td := tVar i) (ty := tVar j) (tx := tC (.int 0)) (x := .int 0) (k := kSd u) (ev_var hd) (ev_var hb) ev_c (.inl h1) (keys_C h3) hu.nk (kSd_dp u)
  rw [val] at g
  refine s_putN (v := .int ((L.count u : Int) + 1)) (ev_op (y := .int 1) g ev_c rv_I0) (ev_var hd) (ev_var hb) h1 (keys_C h3) hu.nk (kSd_dp u) (by rw [List.length_map]; omega) fun H1 e1 => ?_
  have t1 : TEx H (upd H1 d (DN w d (putE (es.map (entC L)) (kSd u) b (.int ((L.count u : Int) + 1))))) := (TEx.of e1).trans (TEx.upd (e1 _ _ h1) dn_notup)
  refine c _ ⟨if u ∈ L then es else es ++ [(b, u)], ?_, Ex.mut (h2.trans e1) hd0, ?_, ?_, ?_⟩ t1 (fun a o ha ho => by rw [upd_ne ha]; exact e1 _ _ ho)
  · rw [upd_same, putE_C h5]
  · intro e he
    split at he
    · exact (h3 e he).mono t1
    · rcases List.mem_append.mp he with he | he
      · exact (h3 e he).mono t1
      · have : e = (b, u) := by simpa using he
        rw [this]
        exact hu.mono t1
  · split
    · exact h4
    · rename_i hn
      rw [List.map_append]
      refine List.nodup_append.mpr ⟨h4, by simp, fun a ha z hz e => ?_⟩
      have : z = u := by simpa using hz
      exact hn ((h5 u).mp (by rw [← this, ← e]; exact ha))
  · intro z
    split
    · rename_i hn
      rw [h5 z, List.mem_append]
      exact ⟨.inl, fun y => y.elim id fun y => by have : z = u := by simpa using y
                                                  rw [this]; exact hn⟩
    · rw [List.map_append, List.mem_append, List.mem_append, h5 z]
      simp
/-! ### _law_sides -/
/-- a new list of sides: just the rim's -/
def NewRim (S : Cell → Bool) (H1 : Hp) (v : V) (H2 : Hp) : Prop := ∃ p as us, v = .ref p ∧ H1 p = none ∧ H2 p = some (.lst (as.map V.ref)) ∧ Paired (SdAt H2) as us ∧ IsRim S us ∧ us.length ≤ 200
def sp_l_sides (K : PySem.W.Frag) : Sp := fun vs H Q _ => ∃ g c h w cs, vs = [.ref g, .ref c] ∧ SqT K H g [.int ((h : Nat) : Int), .int ((w : Nat) : Int)] ∧ GOk h w ∧ SqL K H c ((cs : List Int).map V.int) ∧ COk h w cs ∧ RetP (NewRim (Sc h w cs)) H Q
theorem ep_l_sides {K : PySem.W.Frag} {σ : L2.St} {H : Hp} {ta : TA} {E : XK} {g c : Addr} {h w : Nat} {cs : List Int} (ha : EvA ta σ H [.ref g, .ref c]) (hs : SqT K H g [.int (h : Int), .int (w : Int)]) (gk : GOk h w) (hc : SqL K H c (cs.map V.int)) (ck : COk h w cs) :
    EvP (tCall (sp_l_sides K) [] E ta) σ H (NewRim (Sc h w cs)) := fun H1 e Q q =>
  ha H1 e _ fun H2 e2 => ⟨g, c, h, w, cs, rfl, ex_t (e.trans e2) hs, gk, ex_l (e.trans e2) hc, ck, fun v H3 e3 z => q v H3 (e2.trans e3) (by
    obtain ⟨p, as, us, h1, h2, h3⟩ := z
    exact ⟨p, as, us, h1, fresh_back e2 h2, h3⟩)⟩
def t_l_sides (K : PySem.W.Frag) (w : World) : TS := (tSeq (tAsg (tDNew w) (gName 2))
      (tSeq (tFor (iList K (tVar 1)) (gName 3) (tSeq (tPar 4 5 (tCons (tOp oDiv (tVar 3) (tOp (rIxT K) (tVar 0) (tC (.int 1)))) (tCons (tOp oMod (tVar 3) (tOp (rIxT K) (tVar 0) (tC (.int 1)))) tNil)))
      (tSeq (tAsg (tLst (tCons (tTup (tCons (tTup (tCons (tVar 4) (tCons (tVar 5) tNil))) (tCons (tTup (tCons (tVar 4) (tCons (tOp oAdd (tVar 5) (tC (.int 1))) tNil))) tNil))) (tCons (tTup (tCons (tTup (tCons (tOp oAdd (tVar 4) (tC (.int 1))) (tCons (tVar 5) tNil))) (tCons (tTup (tCons (tOp oAdd (tVar 4) (tC (.int 1))) (tCons (tOp oAdd (tVar 5) (tC (.int 1))) tNil))) tNil))) tNil))) (gName 6))
      (tFor (iList K (tOp rCat (tVar 6) (tLst (tCons (tTup (tCons (tTup (tCons (tVar 4) (tCons (tVar 5) tNil))) (tCons (tTup (tCons (tOp oAdd (tVar 4) (tC (.int 1))) (tCons (tVar 5) tNil))) tNil))) (tCons (tTup (tCons (tTup (tCons (tVar 4) (tCons (tOp oAdd (tVar 5) (tC (.int 1))) tNil))) (tCons (tTup (tCons (tOp oAdd (tVar 4) (tC (.int 1))) (tCons (tOp oAdd (tVar 5) (tC (.int 1))) tNil))) tNil))) tNil))))) (gName 7) (sPutN w (tVar 2) (tVar 7) (tOp oAdd (tGet2N w (tVar 2) (tVar 7) (tC (.int 0))) (tC (.int 1))))))))
      (tRet (tLockE (tLc (iKeysN w (tVar 2)) (gName 7) (tTest (tOp rEq (tGetN w (tVar 2) (tVar 7)) (tC (.int 1)))) (tVar 7) [7])))))
theorem cells_sc {h w : Nat} (gk : GOk h w) {cs : List Int} (ck : COk h w cs) : (cs.map (cellOf w)).Nodup ∧ ∀ x, x ∈ cs.map (cellOf w) ↔ Sc h w cs x = true := by
  constructor
  · have nd : cs.Pairwise (· < ·) := ck.2.2
    unfold List.Nodup
    rw [List.pairwise_map]
    refine nd.imp fun {a b} hab z => ?_
    have h1 := idx_cell gk a
    rw [z, idx_cell gk b] at h1
    omega
  · intro x
    rw [sc_iff, List.mem_map]
    constructor
    · rintro ⟨n, hn, rfl⟩
      have := ck.2.1 n hn
      exact ⟨cell_inG gk this.1 this.2, by rw [idx_cell gk]; exact hn⟩
    · rintro ⟨h1, h2⟩
      exact ⟨_, h2, cell_idx gk h1⟩
theorem allSides_snoc (l : List Cell) (x : Cell) : allSides (l ++ [x]) = allSides l ++ cellSides x := by
  unfold allSides
  rw [List.flatMap_append, List.flatMap_cons, List.flatMap_nil, List.append_nil]
theorem allSides_len (l : List Cell) : (allSides l).length = 4 * l.length := by
  unfold allSides
  induction l with
  | nil => rfl
  | cons a r ih => rw [List.flatMap_cons, List.length_append, ih, List.length_cons]; show 4 + _ = _; omega
theorem cells_len {h w : Nat} (gk : GOk h w) {cs : List Int} (ck : COk h w cs) : cs.length ≤ 36 := by
  have nd : cs.Nodup := List.Pairwise.imp (fun a => by omega) ck.2.2
  have := nodup_sub (m := (List.range 36).map fun (i : Nat) => (i : Int)) nd fun o ho => by
    have b := ck.2.1 o ho
    have := hw_le gk
    exact List.mem_map.mpr ⟨o.toNat, List.mem_range.mpr (by omega), by omega⟩
  rwa [List.length_map, List.length_range] at this
theorem pure_l_sides {K : PySem.W.Frag} {w : World} {vs : List V} {H : Hp} {Q : VK} {E : XK} {D : Ends} (hD : D.rt = Q) {N : List Str} (hN : N.length = 8) (h : sp_l_sides K vs H Q E) : t_l_sides K w D (start N vs) H := by
  obtain ⟨g, c, h, wd, cs, rfl, hs, gk, hc, ck, q⟩ := h
  subst hD
  rw [start_eq hN]
  change t_l_sides K w D [some (.ref g), some (.ref c), none, none, none, none, none, none] H
  have gb := gk
  obtain ⟨g1, g2, g3, g4⟩ := gb
  have cl := cells_len gk ck
  refine q_dnew fun d H1 hd e1 h1 => ?_
  refine q_forLn (j := 3) (ev_var rfl) (ex_l e1 hc) (fun i σ' H' => ∃ y3 y4 y5 y6 y7, σ' = [some (.ref g), some (.ref c), some (.ref d), y3, y4, y5, y6, y7] ∧ CInv w H d (allSides ((cs.take i).map (cellOf wd))) H') (fun H2 e2 => ⟨none, none, none, none, none, rfl, [], (e1.trans e2 |> fun e => e2 _ _ h1), e1.trans e2, (fun e he => nomatch he), List.Pairwise.nil, fun u => ⟨fun z => (nomatch z), fun z => (nomatch z)⟩⟩)
    (fun i σ' H' _ hP => by
      obtain ⟨_, _, _, _, _, _, es, _, e', _⟩ := hP
      exact ex_l e' hc) (fun i x σ' H' hi hP => ?_) (fun σ' H' hP => ?_)
  · obtain ⟨y3, y4, y5, y6, y7, rfl, ci⟩ := hP
    rw [List.getElem?_map] at hi
    obtain ⟨n, hn, rfl⟩ := Option.map_eq_some_iff.mp hi
    have hil : i < cs.length := (List.getElem?_eq_some_iff.mp hn).1
    have eH : Ex H H' := by obtain ⟨es, _, e', _⟩ := ci; exact e'
    have hs' := ex_t eH hs
    refine q_par (i := 4) (j := 5) (x := .int (n / (wd : Int))) (y := .int (n % (wd : Int))) (by walk_at "ev") (by walk_at "ev") fun H2 e2 => ?_
    have ci2 := ci.mono e2
    generalize hr : n / (wd : Int) = r
    generalize ha : n % (wd : Int) = a
    refine q_asgSds (i := 6) (us := [((r, a), (r, a + 1)), ((r + 1, a), (r + 1, a + 1))]) (eas_cons (esd (ept (by walk_at "ev") (by walk_at "ev")) (ept (by walk_at "ev") (by walk_at "ev"))) (eas_cons (esd (ept (by walk_at "ev") (by walk_at "ev")) (ept (by walk_at "ev") (by walk_at "ev"))) eas_nil)) (by simp) fun l as H3 hl e3 h3 hp3 => ?_
    have ci3 := ci2.mono e3
    have eas : EvASd (tCons (tTup (tCons (tTup (tCons (tVar 4) (tCons (tVar 5) tNil))) (tCons (tTup (tCons (tOp oAdd (tVar 4) (tC (.int 1))) (tCons (tVar 5) tNil))) tNil))) (tCons (tTup (tCons (tTup (tCons (tVar 4) (tCons (tOp oAdd (tVar 5) (tC (.int 1))) tNil))) (tCons (tTup (tCons (tOp oAdd (tVar 4) (tC (.int 1))) (tCons (tOp oAdd (tVar 5) (tC (.int 1))) tNil))) tNil))) tNil))
        [some (.ref g), some (.ref c), some (.ref d), some (.int n), some (.int r), some (.int a), some (.ref l), y7] H3 [((r, a), (r + 1, a)), ((r, a + 1), (r + 1, a + 1))] :=
      eas_cons (esd (ept (by walk_at "ev") (by walk_at "ev")) (ept (by walk_at "ev") (by walk_at "ev"))) (eas_cons (esd (ept (by walk_at "ev") (by walk_at "ev")) (ept (by walk_at "ev") (by walk_at "ev"))) eas_nil)
    have ln0 : (allSides ((cs.take i).map (cellOf wd))).length ≤ 200 := by
      rw [allSides_len, List.length_map, List.length_take]
      omega
    refine s_forSd (K := K) (us := cellSides (r, a)) (els_cat h3 hp3 (ev_var rfl) eas (by simp)) (fun p as' k σ' H' => p ≠ d ∧ H' p = some (.lst (as'.map V.ref)) ∧ Paired (SdAt H') as' (cellSides (r, a)) ∧ ∃ y7, σ' = [some (.ref g), some (.ref c), some (.ref d), some (.int n), some (.int r), some (.int a), some (.ref l), y7] ∧ CInv w H d (allSides ((cs.take i).map (cellOf wd)) ++ (cellSides (r, a)).take k) H')
      (fun p as' H4 hp e4 h4 hpr => ⟨fun z => ?_, h4, hpr, y7, rfl, ?_⟩) (fun p as' k σ' H' z => ⟨z.2.1, z.2.2.1⟩) (fun p as' k b u σ' H4 hu hb z => ?_) (fun p as' σ' H4 z => ?_)
    · obtain ⟨es, hz, _⟩ := ci3
      rw [← z, hp] at hz
      cases hz
    · rw [List.take_zero, List.append_nil]
      exact ci3.mono e4
    · obtain ⟨pd, hp4, pr4, y7', rfl, ci4⟩ := z
      show sPutN _ _ _ _ _ _ _
      refine s_count (u := u) (b := b) hd ci4 ?_ rfl rfl hb fun H5 ci5 t5 k5 => ⟨pd, k5 _ _ pd hp4, sds_mono t5 pr4, _, rfl, ?_⟩
      · rw [List.length_append, List.length_take, show (cellSides (r, a)).length = 4 from rfl]
        omega
      · rw [List.append_assoc] at ci5
        rw [take_snoc hu]
        exact ci5
    · obtain ⟨_, _, _, y7', rfl, ci4⟩ := z
      refine ⟨_, _, _, _, _, rfl, ?_⟩
      rw [List.take_length] at ci4
      rw [take_snoc hn, List.map_append, List.map_cons, List.map_nil, allSides_snoc]
      have : cellOf wd n = (r, a) := by unfold cellOf; rw [hr, ha]
      rw [this]
      exact ci4
  · obtain ⟨y3, y4, y5, y6, y7, rfl, ci⟩ := hP
    rw [List.length_map, List.take_length] at ci
    obtain ⟨cn, cm⟩ := cells_sc gk ck
    have cr := count_rim cn cm
    have al : (allSides (cs.map (cellOf wd))).length ≤ 200 := by
      rw [allSides_len, List.length_map]
      omega
    generalize allSides (cs.map (cellOf wd)) = L at ci cr al
    obtain ⟨es, i1, i2, i3, i4, i5⟩ := ci
    have el : es.length ≤ 200 := by
      have := nodup_len i4 fun o ho => (i5 o).mp ho
      rw [List.length_map] at this
      omega
    refine ⟨d, _, i1, True.intro, fun od => ?_⟩
    have tx : TEx H' (upd H' d (.frz od (DN w d (es.map (entC L))))) := TEx.upd i1 dn_notup
    have dl : upd H' d (.frz od (DN w d (es.map (entC L)))) d = some (.frz od (DN w d (es.map (entC L)))) := upd_same
    have un : ∀ H2, Ex (upd H' d (.frz od (DN w d (es.map (entC L))))) H2 → Ex H' (upd H2 d (DN w d (es.map (entC L)))) := fun H2 e2 a o ho => by
      by_cases z : a = d
      · subst z
        rw [i1] at ho
        rw [upd_same, Option.some.inj ho]
      · rw [upd_ne z]
        exact e2 _ _ (by rw [upd_ne z]; exact ho)
    have i3' : ∀ e ∈ es, SdAt (upd H' d (.frz od (DN w d (es.map (entC L))))) e.1 e.2 := fun e he => (i3 e he).mono tx
    have fr : ∀ a, upd H' d (.frz od (DN w d (es.map (entC L)))) a = none → H a = none := fun a ha => by
      by_cases z : a = d
      · rw [z, upd_same] at ha
        cases ha
      · rw [upd_ne z] at ha
        exact fresh_back i2 ha
    generalize upd H' d (.frz od (DN w d (es.map (entC L)))) = HL at *
    refine ⟨_, rfl, d, od, es.map (entC L), rfl, dl, fun Dl hD => ?_⟩
    refine lc_N (fun k => Grow HL Dl (((es.take k).filter fun e => decide (L.count e.2 = 1)).map fun e => V.ref e.1)) ⟨hD, Ex.new hD, upd_same⟩ (fun k H2 z => z.2.1 _ _ dl) (fun k e H2 hk z => ?_) (fun H2 z => ?_)
    · rw [List.getElem?_map] at hk
      obtain ⟨e, he, rfl⟩ := Option.map_eq_some_iff.mp hk
      have hm : e ∈ es := List.mem_of_getElem? he
      refine ⟨rfl, ?_⟩
      have hlen : (((es.take k).filter fun e => decide (L.count e.2 = 1)).map fun e => V.ref e.1).length < 100000 := by
        rw [List.length_map]
        have h1 := List.length_filter_le (fun e : Addr × Sd2 => decide (L.count e.2 = 1)) (es.take k)
        have h2 : (es.take k).length ≤ es.length := by rw [List.length_take]; omega
        omega
      have gv := ev_getN (w := w) (σ := [some (.ref g), some (.ref c), some (.ref d), y3, y4, y5, y6, some (.ref e.1)]) (H := HL) (td := tVar 2) (ty := tVar 7) (k := kSd e.2) (v := .int ((L.count e.2 : Nat) : Int)) (ev_var rfl) (ev_var rfl) (.inr ⟨od, dl⟩) (keys_C i3') (i3' e hm).nk (kSd_dp _) (by rw [valE_map, if_pos (List.mem_map.mpr ⟨e, hm, rfl⟩)])
      have wt := grow_turn (t := tTest (tOp rEq (tGetN w (tVar 2) (tVar 7)) (tC (.int 1)))) (te := tVar 7) (w := V.ref e.1) (b0 := decide (L.count e.2 = 1)) (σ2 := [some (.ref g), some (.ref c), some (.ref d), y3, y4, y5, y6, some (.ref e.1)]) z hlen (et_is (et_test (ev_op (y := .int 1) gv ev_c (rv_eq rfl))) (by rw [Bool.eq_iff_iff]; simp; omega)) (fun _ => ev_var rfl)
      have e2 : (((es.take (k + 1)).filter fun e => decide (L.count e.2 = 1)).map fun e => V.ref e.1) = (((es.take k).filter fun e => decide (L.count e.2 = 1)).map fun e => V.ref e.1) ++ if decide (L.count e.2 = 1) = true then [V.ref e.1] else [] := by
        rw [take_snoc he, List.filter_append, List.map_append]
        congr 1
        cases hf : decide (L.count e.2 = 1) <;> simp [hf]
      rw [e2]
      exact wt
    · obtain ⟨z1, z2, z3⟩ := z
      rw [List.length_map, List.take_length] at z3
      have hDd : Dl ≠ d := fun y => by rw [y, dl] at hD; cases hD
      refine ⟨z2 _ _ dl, q (.ref Dl) _ (i2.trans (un H2 z2)) ⟨Dl, (es.filter fun e => decide (L.count e.2 = 1)).map (·.1), (es.filter fun e => decide (L.count e.2 = 1)).map (·.2), rfl, fr Dl hD, ?_, ?_, ⟨?_, fun u => ?_⟩, ?_⟩⟩
      · rw [upd_ne hDd, z3, List.map_map]
        rfl
      · have tb : TEx HL (upd H2 d (DN w d (es.map (entC L)))) := (TEx.of z2).trans (TEx.upd (z2 _ _ dl) (fun vs y => by cases y))
        have key : ∀ l : List (Addr × Sd2), (∀ e ∈ l, SdAt HL e.1 e.2) → Paired (SdAt (upd H2 d (DN w d (es.map (entC L))))) (l.map (·.1)) (l.map (·.2)) := fun l => by
          induction l with
          | nil => intro _; exact .nil
          | cons e r ih => intro hh; exact .cons ((hh e List.mem_cons_self).mono tb) (ih fun x hx => hh x (List.mem_cons_of_mem _ hx))
        exact key _ fun e he => i3' e (List.mem_filter.mp he).1
      · exact (i4.sublist ((List.filter_sublist).map _))
      · rw [← cr u, List.mem_map]
        constructor
        · rintro ⟨e, he, rfl⟩
          exact of_decide_eq_true (List.mem_filter.mp he).2
        · intro hc1
          have : u ∈ es.map (·.2) := (i5 u).mpr (List.count_pos_iff.mp (by omega))
          obtain ⟨e, he, rfl⟩ := List.mem_map.mp this
          exact ⟨e, List.mem_filter.mpr ⟨he, decide_eq_true hc1⟩, rfl⟩
      · rw [List.length_map]
        exact Nat.le_trans (List.length_filter_le _ _) el

/-! ### _law_points -/
open Sd.J
/-- by directed sides: where one comes to from p -/
def nbD (ds : List Sd2) (p : Pt) : List Pt := (ds.filter fun e => decide (e.1 = p)).map (·.2)
def dirs (us : List Sd2) : List Sd2 := us.flatMap fun u => [(u.1, u.2), (u.2, u.1)]
theorem nbD_snoc (ds : List Sd2) (p q z : Pt) : nbD (ds ++ [(p, q)]) z = if p = z then nbD ds z ++ [q] else nbD ds z := by
  unfold nbD
  rw [List.filter_append, List.map_append]
  by_cases h : p = z
  · rw [if_pos h]
    congr 1
    simp [h]
  · rw [if_neg h]
    simp [h]
theorem nbrs_dirs (us : List Sd2) (p : Pt) : nbD (dirs us) p = nbrs us p := by
  unfold nbrs dirs
  induction us with
  | nil => rfl
  | cons u r ih =>
    rw [List.flatMap_cons, List.flatMap_cons, ← ih]
    unfold nbD
    rw [List.filter_append, List.map_append]
    congr 1
    by_cases h1 : u.1 = p <;> by_cases h2 : u.2 = p <;> simp [h1, h2]
theorem dirs_len (us : List Sd2) : (dirs us).length = 2 * us.length := by
  unfold dirs
  induction us with
  | nil => rfl
  | cons a r ih => rw [List.flatMap_cons, List.length_append, ih, List.length_cons]; show 2 + 2 * r.length = 2 * (r.length + 1); omega
theorem dirs_snoc (us : List Sd2) (u : Sd2) : dirs (us ++ [u]) = dirs us ++ [(u.1, u.2)] ++ [(u.2, u.1)] := by
  unfold dirs
  rw [List.flatMap_append, List.flatMap_cons, List.flatMap_nil, List.append_nil, List.append_assoc]
  rfl
theorem nbD_len (ds : List Sd2) (p : Pt) : (nbD ds p).length ≤ ds.length := by
  unfold nbD
  rw [List.length_map]
  exact List.length_filter_le _ _
/-- an entry: point, where it stands, its list, what is in it -/
abbrev PtE := Pt × Addr × Addr × List Addr
def entP (e : PtE) : Ent := (kPt e.1, e.2.1, .ref e.2.2.1)
theorem valP_none {ks : List PtE} {p : Pt} (h : p ∉ ks.map (·.1)) : valE (ks.map entP) (kPt p) = none := by
  unfold valE
  rw [Option.map_eq_none_iff, List.find?_eq_none]
  intro x hx
  obtain ⟨e, he, rfl⟩ := List.mem_map.mp hx
  intro z
  have z := of_decide_eq_true z
  exact h (List.mem_map.mpr ⟨e, he, kPt_inj z⟩)
theorem valP_some : ∀ {ks : List PtE} {e : PtE}, (ks.map (·.1)).Nodup → e ∈ ks → valE (ks.map entP) (kPt e.1) = some (.ref e.2.2.1)
  | k :: r, e, hn, he => by
    unfold valE
    rw [List.map_cons, List.find?_cons]
    rw [List.map_cons, List.nodup_cons] at hn
    rcases List.mem_cons.mp he with rfl | he
    · have : decide ((entP e).1 = kPt e.1) = true := decide_eq_true rfl
      rw [this]
      rfl
    · have : decide ((entP k).1 = kPt e.1) = false := decide_eq_false fun z => hn.1 (List.mem_map.mpr ⟨e, he, (kPt_inj z).symm⟩)
      rw [this]
      exact valP_some hn.2 he
theorem keys_P {H : Hp} {ks : List PtE} (h : ∀ e ∈ ks, PtAt H e.2.1 e.1) : Keys H (ks.map entP) := fun x hx => by
  obtain ⟨e, he, rfl⟩ := List.mem_map.mp hx
  exact ⟨(h e he).nk, kPt_dp _⟩
theorem nd_inj {α β : Type} {f : α → β} : ∀ {l : List α} {x y : α}, (l.map f).Nodup → x ∈ l → y ∈ l → f x = f y → x = y
  | a :: r, x, y, hn, hx, hy, h => by
    rw [List.map_cons, List.nodup_cons] at hn
    rcases List.mem_cons.mp hx with rfl | hx
    · rcases List.mem_cons.mp hy with rfl | hy
      · rfl
      · exact absurd (List.mem_map.mpr ⟨y, hy, h.symm⟩) hn.1
    · rcases List.mem_cons.mp hy with e | hy
      · exact absurd (List.mem_map.mpr ⟨x, hx, h.trans (by rw [e])⟩) hn.1
      · exact nd_inj hn.2 hx hy h
def updE (p : Pt) (b : Addr) (x : PtE) : PtE := if x.1 = p then (x.1, x.2.1, x.2.2.1, x.2.2.2 ++ [b]) else x
theorem updE_1 (p : Pt) (b : Addr) (x : PtE) : (updE p b x).1 = x.1 := by
  unfold updE
  split <;> rfl
theorem updE_l (p : Pt) (b : Addr) (x : PtE) : (updE p b x).2.2.1 = x.2.2.1 := by
  unfold updE
  split <;> rfl
theorem updE_e (p : Pt) (b : Addr) (x : PtE) : entP (updE p b x) = entP x := by
  unfold updE
  split <;> rfl
def PInv (w : World) (H0 : Hp) (d : Addr) (ds : List Sd2) (H : Hp) : Prop := ∃ ks : List PtE, H d = some (DN w d (ks.map entP)) ∧ Ex H0 H ∧ (∀ e ∈ ks, PtAt H0 e.2.1 e.1 ∧ H0 e.2.2.1 = none ∧ e.2.2.1 ≠ d ∧ H e.2.2.1 = some (.lst (e.2.2.2.map V.ref)) ∧ Paired (PtAt H0) e.2.2.2 (nbD ds e.1)) ∧
  (ks.map (·.1)).Nodup ∧ (ks.map (·.2.2.1)).Nodup ∧ ∀ p, p ∈ ks.map (·.1) ↔ nbD ds p ≠ []
theorem PInv.mono {w : World} {H0 H H' : Hp} {d : Addr} {ds : List Sd2} (e : Ex H H') (h : PInv w H0 d ds H) : PInv w H0 d ds H' := by
  obtain ⟨ks, h1, h2, h3, h4⟩ := h
  exact ⟨ks, e _ _ h1, h2.trans e, fun x hx => ⟨(h3 x hx).1, (h3 x hx).2.1, (h3 x hx).2.2.1, e _ _ (h3 x hx).2.2.2.1, (h3 x hx).2.2.2.2⟩, h4⟩
theorem s_near {K : PySem.W.Frag} {w : World} {H0 H : Hp} {σ : L2.St} {D : Ends} {d a b : Addr} {ds : List Sd2} {p q : Pt} {i j k : Nat} (hd0 : H0 d = none) (pi : PInv w H0 d ds H) (hl : ds.length < 1000) (hd : σ[i]? = some (some (.ref d))) (ha : σ[j]? = some (some (.ref a))) (hb : σ[k]? = some (some (.ref b))) (hp : PtAt H0 a p) (hq : PtAt H0 b q)
    (c : ∀ H1, PInv w H0 d (ds ++ [(p, q)]) H1 → D.nx σ H1) : tDrop (tBM K "list" rAppend (tSetdN w (tVar i) (tVar j) (tLst tNil)) (tCons (tVar k) tNil)) D σ H := by
  obtain ⟨ks, h1, h2, h3, h4, h5, h6⟩ := pi
  have kl : ks.length ≤ ds.length := by
    have := nodup_len (m := ds.map (·.1)) h4 fun o ho => by
      obtain ⟨z, hz⟩ := List.exists_mem_of_ne_nil _ ((h6 o).mp ho)
      unfold nbD at hz
      obtain ⟨e, he, _⟩ := List.mem_map.mp hz
      obtain ⟨e1, e2⟩ := List.mem_filter.mp he
      exact List.mem_map.mpr ⟨e, e1, of_decide_eq_true e2⟩
    rwa [List.length_map, List.length_map] at this
  refine ⟨_, hd, d, _, rfl, .inl h1, _, ha, sz_of (by simp), fun l0 hl0 => ?_⟩
  have e3 : Ex H (upd H l0 (.lst [])) := Ex.new hl0
  have l0d : l0 ≠ d := fun z => by rw [z, h1] at hl0; cases hl0
  have l00 : H0 l0 = none := fresh_back h2 hl0
  have l3 : upd H l0 (.lst []) l0 = some (.lst []) := upd_same
  have keepN : ∀ e ∈ ks, e.2.2.1 ≠ l0 := fun e he z => by
    have := (h3 e he).2.2.2.1
    rw [z, hl0] at this
    cases this
  generalize upd H l0 (.lst []) = H3 at *
  refine ⟨ks.map entP, kPt p, a, rfl, e3 _ _ h1, keys_P fun e he => (h3 e he).1.mono (.of (h2.trans e3)), (hp.mono (.of (h2.trans e3))).nk, kPt_dp p, sz_lt (by rw [List.length_map]; omega), fun v hv => ?_, fun hv => ?_⟩
  · -- met before
    have hm : p ∈ ks.map (·.1) := Classical.byContradiction fun hn => by rw [valP_none hn] at hv; cases hv
    obtain ⟨e, he, rfl⟩ := List.mem_map.mp hm
    rw [valP_some h4 he] at hv
    obtain rfl := Option.some.inj hv
    obtain ⟨k1, k2, k3, k4, k5⟩ := h3 e he
    have bl : e.2.2.2.length ≤ ds.length := by rw [Paired.length k5]; exact nbD_len ds e.1
    refine ⟨Or.inl ⟨rfl, _, sq_of (e3 _ _ k4)⟩, _, hb, e.2.2.1, e.2.2.2.map V.ref, .ref b, rfl, rfl, e3 _ _ k4, sz_lt (by rw [List.length_map]; omega), c _ ?_⟩
    refine ⟨ks.map (updE e.1 b), ?_, Ex.mut (h2.trans e3) k2, ?_, ?_, ?_, ?_⟩
    · rw [upd_ne k3.symm, e3 _ _ h1, List.map_map]
      congr 2
      exact List.map_congr_left fun x _ => (updE_e e.1 b x).symm
    · intro x hx
      obtain ⟨y, hy, rfl⟩ := List.mem_map.mp hx
      obtain ⟨y1, y2, y3, y4, y5⟩ := h3 y hy
      by_cases z : y.1 = e.1
      · have : y = e := nd_inj h4 hy he z
        subst this
        rw [show updE y.1 b y = (y.1, y.2.1, y.2.2.1, y.2.2.2 ++ [b]) from if_pos rfl]
        refine ⟨y1, y2, y3, ?_, ?_⟩
        · dsimp only
          rw [upd_same, List.map_append]
          rfl
        · dsimp only
          rw [nbD_snoc, if_pos rfl]
          exact pair_snoc y5 hq
      · rw [show updE e.1 b y = y from if_neg z]
        refine ⟨y1, y2, y3, ?_, ?_⟩
        · have : y.2.2.1 ≠ e.2.2.1 := fun w => z (by rw [nd_inj h5 hy he w])
          rw [upd_ne this]
          exact e3 _ _ y4
        · rw [nbD_snoc, if_neg (fun w => z w.symm)]
          exact y5
    · rw [List.map_map, show ks.map ((fun x : PtE => x.1) ∘ updE e.1 b) = ks.map (·.1) from List.map_congr_left fun x _ => updE_1 e.1 b x]
      exact h4
    · rw [List.map_map, show ks.map ((fun x : PtE => x.2.2.1) ∘ updE e.1 b) = ks.map (·.2.2.1) from List.map_congr_left fun x _ => updE_l e.1 b x]
      exact h5
    · intro z
      rw [List.map_map, show ks.map ((fun x : PtE => x.1) ∘ updE e.1 b) = ks.map (·.1) from List.map_congr_left fun x _ => updE_1 e.1 b x, nbD_snoc]
      by_cases y : e.1 = z
      · rw [if_pos y]
        exact ⟨fun _ => by simp, fun _ => by rw [← y]; exact hm⟩
      · rw [if_neg y]
        exact h6 z
  · -- new
    have hm : p ∉ ks.map (·.1) := fun hm => by
      obtain ⟨e, he, rfl⟩ := List.mem_map.mp hm
      rw [valP_some h4 he] at hv
      cases hv
    have hnb : nbD ds p = [] := Classical.byContradiction fun z => hm ((h6 p).mpr z)
    have pe : putE (ks.map entP) (kPt p) a (.ref l0) = (ks ++ [(p, a, l0, [b])]).map entP := by
      unfold putE
      rw [hv, List.map_append]
      rfl
    rw [pe]
    have l4 : upd H3 d (DN w d ((ks ++ [(p, a, l0, [b])]).map entP)) l0 = some (.lst []) := by rw [upd_ne l0d]; exact l3
    refine ⟨Or.inl ⟨rfl, _, sq_of l4⟩, _, hb, l0, [], .ref b, rfl, rfl, l4, sz_lt (by simp), c _ ?_⟩
    refine ⟨ks ++ [(p, a, l0, [b])], ?_, ?_, ?_, ?_, ?_, ?_⟩
    · rw [upd_ne l0d.symm, upd_same]
    · exact Ex.mut (Ex.mut (h2.trans e3) hd0) l00
    · intro x hx
      rcases List.mem_append.mp hx with hx | hx
      · obtain ⟨y1, y2, y3, y4, y5⟩ := h3 x hx
        refine ⟨y1, y2, y3, ?_, ?_⟩
        · rw [upd_ne (keepN x hx), upd_ne y3]
          exact e3 _ _ y4
        · have : p ≠ x.1 := fun z => hm (List.mem_map.mpr ⟨x, hx, z.symm⟩)
          rw [nbD_snoc, if_neg this]
          exact y5
      · have : x = (p, a, l0, [b]) := by simpa using hx
        subst this
        refine ⟨hp, l00, l0d, ?_, ?_⟩
        · dsimp only
          rw [upd_same]
          rfl
        · dsimp only
          rw [nbD_snoc, if_pos rfl, hnb]
          exact .cons hq .nil
    · rw [List.map_append]
      exact List.nodup_append.mpr ⟨h4, by simp, fun y hy z hz e => hm (by
        have : z = p := by simpa using hz
        rw [← this, ← e]
        exact hy)⟩
    · rw [List.map_append]
      exact List.nodup_append.mpr ⟨h5, by simp, fun y hy z hz e => by
        have : z = l0 := by simpa using hz
        obtain ⟨x, hx, rfl⟩ := List.mem_map.mp hy
        exact keepN x hx (e.trans this)⟩
    · intro z
      rw [List.map_append, List.mem_append, nbD_snoc, h6 z]
      by_cases y : p = z
      · rw [if_pos y]
        exact ⟨fun _ => by simp, fun _ => .inr (by rw [← y]; simp)⟩
      · rw [if_neg y]
        exact ⟨fun h => h.elim id fun h => absurd (by simpa using h : z = p).symm y, .inl⟩
/-- a new dict: each point's neighbours -/
def NewNear (w : World) (us : List Sd2) (H1 : Hp) (v : V) (H2 : Hp) : Prop := ∃ (d : Addr) (ks : List PtE), v = .ref d ∧ H1 d = none ∧ H2 d = some (DN w d (ks.map entP)) ∧ (∀ e ∈ ks, PtAt H2 e.2.1 e.1 ∧ H2 e.2.2.1 = some (.lst (e.2.2.2.map V.ref)) ∧ Paired (PtAt H2) e.2.2.2 (nbrs us e.1)) ∧ (ks.map (·.1)).Nodup ∧ ∀ p, p ∈ ks.map (·.1) ↔ nbrs us p ≠ []
def sp_l_points (K : PySem.W.Frag) (w : World) : Sp := fun vs H Q _ => ∃ s as us, vs = [.ref s] ∧ H s = some (.lst ((as : List Addr).map V.ref)) ∧ Paired (SdAt H) as us ∧ us.length ≤ 200 ∧ RetP (NewNear w us) H Q
theorem ep_l_points {K : PySem.W.Frag} {w : World} {σ : L2.St} {H : Hp} {ta : TA} {E : XK} {s : Addr} {as : List Addr} {us : List Sd2} (ha : EvA ta σ H [.ref s]) (hs : H s = some (.lst (as.map V.ref))) (hp : Paired (SdAt H) as us) (hl : us.length ≤ 200) :
    EvP (tCall (sp_l_points K w) [] E ta) σ H (NewNear w us) := fun H1 e Q q =>
  ha H1 e _ fun H2 e2 => ⟨s, as, us, rfl, (e.trans e2) _ _ hs, sds_mono (.of (e.trans e2)) hp, hl, fun v H3 e3 z => q v H3 (e2.trans e3) (by
    obtain ⟨d, ks, h1, h2, h3⟩ := z
    exact ⟨d, ks, h1, fresh_back e2 h2, h3⟩)⟩
def t_l_points (K : PySem.W.Frag) (w : World) : TS := (tSeq (tAsg (tDNew w) (gName 1))
      (tSeq (tFor (iList K (tVar 0)) (gTup K 2 (gCons (gName 2) (gCons (gName 3) gNil))) (tSeq (tDrop (tBM K "list" rAppend (tSetdN w (tVar 1) (tVar 2) (tLst tNil)) (tCons (tVar 3) tNil)))
      (tDrop (tBM K "list" rAppend (tSetdN w (tVar 1) (tVar 3) (tLst tNil)) (tCons (tVar 2) tNil)))))
      (tRet (tVar 1))))
theorem pure_l_points {K : PySem.W.Frag} {w : World} {vs : List V} {H : Hp} {Q : VK} {E : XK} {D : Ends} (hD : D.rt = Q) {N : List Str} (hN : N.length = 4) (h : sp_l_points K w vs H Q E) : t_l_points K w D (start N vs) H := by
  obtain ⟨s, as, us, rfl, hs, hp, hl, q⟩ := h
  subst hD
  rw [start_eq hN]
  change t_l_points K w D [some (.ref s), none, none, none] H
  refine q_dnew fun d H1 hd e1 h1 => ?_
  refine q_forL (K := K) (xs := as.map V.ref) (ev_var rfl) (sq_of (e1 _ _ hs)) (fun i σ' H' => ∃ y2 y3, σ' = [some (.ref s), some (.ref d), y2, y3] ∧ PInv w H d (dirs (us.take i)) H') (fun H2 e2 => ⟨none, none, rfl, [], e2 _ _ h1, e1.trans e2, (fun e he => nomatch he), List.Pairwise.nil, List.Pairwise.nil, fun u => ⟨fun z => (nomatch z), fun z => absurd rfl z⟩⟩)
    (fun i σ' H' _ hP => by
      obtain ⟨_, _, _, ks, _, e', _⟩ := hP
      exact sq_of (e' _ _ hs)) (fun i x σ' H' hi hP => ?_) (fun σ' H' hP => ?_)
  · obtain ⟨y2, y3, rfl, pi⟩ := hP
    rw [List.getElem?_map] at hi
    obtain ⟨a, ha, rfl⟩ := Option.map_eq_some_iff.mp hi
    obtain ⟨u, hu, pa, pb, k1, k2, k3⟩ := L2.paired_get hp ha
    have eH : Ex H H' := by obtain ⟨ks, _, e', _⟩ := pi; exact e'
    have ln : (dirs (us.take i)).length ≤ 400 := by
      rw [dirs_len, List.length_take]
      omega
    refine ⟨a, _, rfl, st_of (eH _ _ k1), rfl, _, _, rfl, _, _, rfl, rfl, ?_⟩
    refine s_near (K := K) (D := { nx := _, rt := _, bk := _, ct := _ }) (i := 1) (j := 2) (k := 3) (p := u.1) (q := u.2) hd pi (by omega) rfl rfl rfl k2 k3 fun H2 p2 => ?_
    refine s_near (K := K) (i := 1) (j := 3) (k := 2) (p := u.2) (q := u.1) hd p2 (by rw [List.length_append]; simp; omega) rfl rfl rfl k3 k2 fun H3 p3 => ⟨_, _, rfl, ?_⟩
    rw [take_snoc hu, dirs_snoc]
    exact p3
  · obtain ⟨y2, y3, rfl, pi⟩ := hP
    rw [List.length_map, Paired.length hp, List.take_length] at pi
    obtain ⟨ks, h1', h2, h3, h4, h5, h6⟩ := pi
    refine s_ret (ev_var rfl) fun H2 e2 => q _ _ (h2.trans e2) ⟨d, ks, rfl, hd, e2 _ _ h1', fun e he => ?_, h4, fun p => ?_⟩
    · obtain ⟨y1, y2, y3, y4, y5⟩ := h3 e he
      rw [nbrs_dirs] at y5
      exact ⟨y1.mono (.of (h2.trans e2)), e2 _ _ y4, pts_mono (.of (h2.trans e2)) y5⟩
    · rw [h6 p, nbrs_dirs]

/-! ### _law_is_ring -/
open Sd.J
abbrev dPt (p : Pt) : PyData := dP p.1 p.2
theorem PtAt.dp {K : PySem.W.Frag} {H : Hp} {a : Addr} {p : Pt} (h : PtAt H a p) : Dp K H (.ref a) (dPt p) := .tup (st_of h) (.cons (.int _) (.cons (.int _) .nil))
theorem eqv_dPt (p q : Pt) : PyData.eqv (dPt p) (dPt q) = decide (p = q) := by
  rw [eqv_dP, Bool.eq_iff_iff]
  simp only [decide_eq_true_eq]
  exact ⟨fun h => Prod.ext h.1 h.2, fun h => by rw [h]; exact ⟨rfl, rfl⟩⟩
theorem alike_dPt (p q : Pt) : PySem.W.alike (dPt p) (dPt q) = true := by
  unfold dPt dP
  simp [PySem.W.alike, PySem.W.alikeAll]
theorem depth_dPt (p : Pt) : (dPt p).depth = 1 := by
  unfold dPt dP
  simp [PyData.depth, PyData.depthAll]
theorem depthAll_pts {γ : Type} (f : γ → Pt) : ∀ l : List γ, PyData.depthAll (l.map fun b => dPt (f b)) ≤ 1
  | [] => Nat.zero_le _
  | b :: r => by
    rw [List.map_cons, PyData.depthAll, depth_dPt]
    have := depthAll_pts f r
    omega
section
variable {K : PySem.W.Frag} {w : World} {σ : L2.St} {H H' : Hp} {ta tb tc te tl : TE} {t : TT} {D : Ends} {tz : TS} {d : Addr} {kas : List Ent}
theorem el_lcG {γ : Type} {zs : List γ} {emb : γ → V} {j : Nat} {vs : List Nat} (f : γ → Bool) (g : γ → V) (h : EvS K tl σ H (zs.map emb)) (hz : zs.length ≤ 40000) (hw : ∀ x, wipe ((wipe σ vs).set j (some x)) vs = wipe σ vs)
    (ht : ∀ (z : γ) H1, Ex H H1 → z ∈ zs → EvT t ((wipe σ vs).set j (some (emb z))) H1 (f z)) (he : ∀ (z : γ) H1, Ex H H1 → z ∈ zs → f z = true → Ev te ((wipe σ vs).set j (some (emb z))) H1 (g z)) :
    EvL (tLc (iList K tl) (gName j) t te vs) σ H ((zs.filter f).map g) := fun H0 e Q q => h H0 e _ fun a H1 e1 ha => ⟨a, rfl, ⟨_, ha⟩, fun Dl hD => by
  refine lc_list (xs := zs.map emb) (fun n => Grow H1 Dl (((zs.take n).filter f).map g)) ⟨hD, Ex.new hD, upd_same⟩ (fun n H' _ p => ex_l p.2.1 ha) (fun n x H' hi p => ?_) (fun H' p => ?_)
  · rw [List.getElem?_map] at hi
    obtain ⟨z, hr, rfl⟩ := Option.map_eq_some_iff.mp hi
    have hm : z ∈ zs := List.mem_of_getElem? hr
    refine ⟨hw _, ?_⟩
    have hlen : (((zs.take n).filter f).map g).length < 100000 := by
      rw [List.length_map]
      have h1 := List.length_filter_le f (zs.take n)
      have h2 : (zs.take n).length ≤ zs.length := by rw [List.length_take]; omega
      omega
    have w := grow_turn p hlen (ht z H1 (e.trans e1) hm) (he z H1 (e.trans e1) hm)
    have e2 : (((zs.take (n + 1)).filter f).map g) = ((zs.take n).filter f).map g ++ if f z = true then [g z] else [] := by
      rw [take_snoc hr, List.filter_append, List.map_append]
      congr 1
      cases hf : f z <;> simp [hf]
    rw [e2]
    exact w
  · rw [List.length_map, List.take_length] at p
    exact q Dl H' (fresh_back e1 p.1) (e1.trans p.2.1) p.2.2⟩
/-- list(d) -/
theorem el_listN (hv : Ev ta σ H (.ref d)) (hd : H d = some (DN w d kas)) : EvL (tCB (rListN w) (tCons ta tNil)) σ H (kas.map fun e => V.ref e.2.1) := fun H1 e Q q =>
  hv H1 e _ fun H2 e2 => ⟨d, kas, rfl, .inl ((e.trans e2) _ _ hd), fun p hp => q p _ (fresh_back e2 hp) (e2.trans (Ex.new hp)) upd_same⟩
/-- sorted(points) -/
theorem el_sortPts {ks : List (Addr × Pt)} (h : EvL ta σ H (ks.map fun e => V.ref e.1)) (hp : ∀ e ∈ ks, PtAt H e.1 e.2) (hl : ks.length ≤ 1000) :
    ∃ l : List (V × Pt), l.Perm (ks.map fun e => (V.ref e.1, e.2)) ∧ EvL (tCB (rSortV dPt K) (tCons ta tNil)) σ H (l.map (·.1)) := by
  refine ⟨(ks.map fun e => (V.ref e.1, e.2)).mergeSort (PySem.W.dataLe false fun b => dPt b.2), List.mergeSort_perm _ _, fun H1 e Q q => h H1 e _ fun p H2 hp2 e2 h2 => ?_⟩
  refine ⟨p, ks.map fun e => (V.ref e.1, e.2), rfl, ?_, fun c hc => ?_, ?_, ?_, fun c hc => ?_, fun s hs => q s _ (fresh_back e2 hs) (e2.trans (Ex.new hs)) upd_same⟩
  · rw [List.map_map]
    exact sq_of h2
  · obtain ⟨b, hm, rfl⟩ := List.mem_map.mp hc
    exact ((hp b hm).mono (.of (e.trans e2))).dp
  · exact PySem.W.AllAlike.of (enc := fun b : V × Pt => dPt b.2) fun b b' => alike_dPt _ _
  · refine .inl fun d hd => ?_
    obtain ⟨b, _, rfl⟩ := List.mem_map.mp hd
    exact ⟨_, _, rfl⟩
  · show (dPt c.2).depth ≤ 40
    rw [depth_dPt]
    omega
/-- min(points) -/
theorem ep_minPts {ks : List (Addr × Pt)} (h : EvL ta σ H (ks.map fun e => V.ref e.1)) (hp : ∀ e ∈ ks, PtAt H e.1 e.2) (hn : ks ≠ []) :
    EvP (tCB (rMinV dPt K) (tCons ta tNil)) σ H (fun _ v _ => ∃ e ∈ ks, v = .ref e.1 ∧ dPt e.2 = PySem.W.minD (dPt (ks.head hn).2) (ks.tail.map fun e => dPt e.2)) := fun H1 e Q q => h H1 e _ fun p H2 hp2 e2 h2 => by
  obtain ⟨k, r, rfl⟩ := List.exists_cons_of_ne_nil hn
  refine ⟨p, (V.ref k.1, k.2), r.map fun e => (V.ref e.1, e.2), rfl, ?_, fun c hc => ?_, ⟨fun x hx y hy => ?_, fun x hx => ?_⟩, ?_, fun b hb he => ?_⟩
  · have : ((V.ref k.1, k.2) :: r.map fun e => (V.ref e.1, e.2)).map (·.1) = (k :: r).map fun e => V.ref e.1 := by
      rw [List.map_cons, List.map_map]
      rfl
    rw [this]
    exact sq_of h2
  · have hc : c ∈ (k :: r).map fun e => (V.ref e.1, e.2) := hc
    obtain ⟨b, hm, rfl⟩ := List.mem_map.mp hc
    exact ((hp b hm).mono (.of (e.trans e2))).dp
  · obtain ⟨b, _, rfl⟩ := List.mem_map.mp hx
    obtain ⟨c, _, rfl⟩ := List.mem_map.mp hy
    exact alike_dPt _ _
  · obtain ⟨b, _, rfl⟩ := List.mem_map.mp hx
    exact fun z => PyData.noConfusion z
  · exact Nat.le_trans (depthAll_pts (fun b : V × Pt => b.2) _) (by decide)
  · have hb : b ∈ (k :: r).map fun e => (V.ref e.1, e.2) := hb
    obtain ⟨c, hm, rfl⟩ := List.mem_map.mp hb
    refine q _ H2 e2 ⟨c, hm, rfl, ?_⟩
    dsimp only at he
    rw [he, List.map_map]
    rfl
/-- a, b, c = e1, e2, e3 by a tuple -/
theorem q_tup3 {i j k : Nat} {x y z : V} (h1 : Ev ta σ H x) (h2 : Ev tb σ H y) (h3 : Ev tc σ H z) (c : ∀ H1, Ex H H1 → tz D (((σ.set i (some x)).set j (some y)).set k (some z)) H1) :
    tSeq (tAsg (tTup (tCons ta (tCons tb (tCons tc tNil)))) (gTup K 3 (gCons (gName i) (gCons (gName j) (gCons (gName k) gNil))))) tz D σ H :=
  h1 H (Ex.refl H) _ fun H1 e1 => h2 H1 e1 _ fun H2 e2 => h3 H2 (e1.trans e2) _ fun H3 e3 => ⟨sz_of (by simp), fun q hq => ⟨q, _, rfl, st_of upd_same, rfl, _, _, rfl, _, _, rfl, _, _, rfl, rfl, c _ (((e1.trans e2).trans e3).trans (Ex.new hq))⟩⟩
theorem s_tup3 {i j k : Nat} {x y z : V} (h1 : Ev ta σ H x) (h2 : Ev tb σ H y) (h3 : Ev tc σ H z) (c : ∀ H1, Ex H H1 → D.nx (((σ.set i (some x)).set j (some y)).set k (some z)) H1) :
    tAsg (tTup (tCons ta (tCons tb (tCons tc tNil)))) (gTup K 3 (gCons (gName i) (gCons (gName j) (gCons (gName k) gNil)))) D σ H :=
  h1 H (Ex.refl H) _ fun H1 e1 => h2 H1 e1 _ fun H2 e2 => h3 H2 (e1.trans e2) _ fun H3 e3 => ⟨sz_of (by simp), fun q hq => ⟨q, _, rfl, st_of upd_same, rfl, _, _, rfl, _, _, rfl, _, _, rfl, rfl, c _ (((e1.trans e2).trans e3).trans (Ex.new hq))⟩⟩
end
theorem at_zero {x : V} {xs : List V} : atI (x :: xs) 0 = some x := atI_nat (xs := x :: xs) (j := 0) rfl
def sp_l_is_ring (K : PySem.W.Frag) : Sp := fun vs H Q _ => ∃ g c h w cs, vs = [.ref g, .ref c] ∧ SqT K H g [.int ((h : Nat) : Int), .int ((w : Nat) : Int)] ∧ GOk h w ∧ SqL K H c ((cs : List Int).map V.int) ∧ COk h w cs ∧ RetV (.bl (isRing h w cs)) H Q
theorem ev_l_is_ring {K : PySem.W.Frag} {σ : L2.St} {H : Hp} {ta tb : TE} {E : XK} {h w : Nat} {cs : List Int} (ha : EvST K ta σ H [.int (h : Int), .int (w : Int)]) (gk : GOk h w) (hc : EvS K tb σ H (cs.map V.int)) (ck : COk h w cs) :
    Ev (tCall (sp_l_is_ring K) [] E (tCons ta (tCons tb tNil))) σ H (.bl (isRing h w cs)) := fun H1 e Q q =>
  ha H1 e _ fun g H2 e2 hg => hc H2 (e.trans e2) _ fun c H3 e3 hc3 => ⟨g, c, h, w, cs, rfl, ex_t e3 hg, gk, hc3, ck, fun H4 e4 => q H4 ((e2.trans e3).trans e4)⟩
def t_l_is_ring (K : PySem.W.Frag) (w : World) : TS := (tSeq (tAsg (tCall (sp_l_sides K) [] E0 (tCons (tVar 0) (tCons (tVar 1) tNil))) (gName 2))
      (tSeq (tAsg (tCall (sp_l_points K w) [] E0 (tCons (tVar 2) tNil)) (gName 3))
      (tSeq (tIfS (tB (tCB (rAny K) (tCons (tLc (iList K (tCB (rSortV dPt K) (tCons (tCB (rListN w) (tCons (tVar 3) tNil)) tNil))) (gName 9) tYes (tOp rNe (tCB (rLenS K) (tCons (tGetN w (tVar 3) (tVar 9)) tNil)) (tC (.int 2))) [9]) tNil))) (tRet (tC (.bl false))) tNext)
      (tSeq (tAsg (tCB (rMinV dPt K) (tCons (tCB (rListN w) (tCons (tVar 3) tNil)) tNil)) (gName 4))
      (tSeq (tAsg (tTup (tCons (tVar 4) (tCons (tOp (rIxL K) (tGetN w (tVar 3) (tVar 4)) (tC (.int 0))) (tCons (tC (.int 1)) tNil)))) (gTup K 3 (gCons (gName 5) (gCons (gName 6) (gCons (gName 7) gNil)))))
      (tSeq (tWhile (tTest (tOp (rNeD K) (tVar 6) (tVar 4))) (tSeq (tAsg (tLc (iList K (tGetN w (tVar 3) (tVar 6))) (gName 9) (tTest (tOp (rNeD K) (tVar 9) (tVar 5))) (tVar 9) [9]) (gName 8))
      (tAsg (tTup (tCons (tVar 6) (tCons (tOp (rIxL K) (tVar 8) (tC (.int 0))) (tCons (tOp oAdd (tVar 7) (tC (.int 1))) tNil)))) (gTup K 3 (gCons (gName 5) (gCons (gName 6) (gCons (gName 7) gNil)))))))
      (tRet (tOp rEq (tVar 7) (tCB (rLenS K) (tCons (tVar 2) tNil))))))))))
/-- the dict of neighbours as it stands -/
def NearAt (w : World) (us : List Sd2) (H : Hp) (d : Addr) (ks : List PtE) : Prop := H d = some (DN w d (ks.map entP)) ∧ (∀ e ∈ ks, PtAt H e.2.1 e.1 ∧ H e.2.2.1 = some (.lst (e.2.2.2.map V.ref)) ∧ Paired (PtAt H) e.2.2.2 (nbrs us e.1)) ∧ (ks.map (·.1)).Nodup ∧ ∀ p, p ∈ ks.map (·.1) ↔ nbrs us p ≠ []
theorem NearAt.mono {w : World} {us : List Sd2} {H H' : Hp} {d : Addr} {ks : List PtE} (e : Ex H H') (h : NearAt w us H d ks) : NearAt w us H' d ks := by
  obtain ⟨h1, h2, h3⟩ := h
  exact ⟨e _ _ h1, fun x hx => ⟨(h2 x hx).1.mono (.of e), e _ _ (h2 x hx).2.1, pts_mono (.of e) (h2 x hx).2.2⟩, h3⟩
theorem paired_zip {α β : Type} {F : α → β → Prop} : ∀ {l : List α} {m : List β}, Paired F l m → ∃ zs : List (α × β), l = zs.map (·.1) ∧ m = zs.map (·.2) ∧ ∀ z ∈ zs, F z.1 z.2
  | _, _, .nil => ⟨[], rfl, rfl, fun z hz => nomatch hz⟩
  | a :: _, b :: _, .cons h hs => by
    obtain ⟨zs, h1, h2, h3⟩ := paired_zip hs
    refine ⟨(a, b) :: zs, by rw [h1]; rfl, by rw [h2]; rfl, fun z hz => ?_⟩
    rcases List.mem_cons.mp hz with rfl | hz
    · exact h
    · exact h3 z hz
/-- near[p]: its neighbours -/
theorem near_get {w : World} {us : List Sd2} {σ : L2.St} {H : Hp} {d a : Addr} {ks : List PtE} {p : Pt} {td ty : TE} (na : NearAt w us H d ks) (hd : Ev td σ H (.ref d)) (hy : Ev ty σ H (.ref a)) (hp : PtAt H a p) (hn : nbrs us p ≠ []) :
    ∃ l, ∃ zs : List (Addr × Pt), Ev (tGetN w td ty) σ H (.ref l) ∧ H l = some (.lst (zs.map fun z => V.ref z.1)) ∧ nbrs us p = zs.map (·.2) ∧ ∀ z ∈ zs, PtAt H z.1 z.2 := by
  obtain ⟨h1, h2, h3, h4⟩ := na
  obtain ⟨e, he, rfl⟩ := List.mem_map.mp ((h4 p).mpr hn)
  obtain ⟨k1, k2, k3⟩ := h2 e he
  obtain ⟨zs, z1, z2, z3⟩ := paired_zip k3
  refine ⟨e.2.2.1, zs, ev_getN hd hy (.inl h1) (keys_P fun x hx => (h2 x hx).1) hp.nk (kPt_dp _) (valP_some h3 he), ?_, z2, z3⟩
  rw [k2, z1, List.map_map]
  rfl
theorem pure_l_is_ring {K : PySem.W.Frag} {w : World} {vs : List V} {H : Hp} {Q : VK} {E : XK} {D : Ends} (hD : D.rt = Q) {N : List Str} (hN : N.length = 10) (h : sp_l_is_ring K vs H Q E) : t_l_is_ring K w D (start N vs) H := by
  obtain ⟨g, c, h, wd, cs, rfl, hs, gk, hc, ck, q⟩ := h
  subst hD
  rw [start_eq hN]
  change t_l_is_ring K w D [some (.ref g), some (.ref c), none, none, none, none, none, none, none, none] H
  have riff := isRing_iff gk ck
  have wit := sc_within h wd cs
  have fr := first_rim gk ck
  -- the sides
  refine q_asgP (i := 2) (ep_l_sides (K := K) (ea_cons (ev_var rfl) (ea_cons (ev_var rfl) ea_nil)) hs gk hc ck) fun v H1 e1 hv => ?_
  obtain ⟨sp, as, us, rfl, _, s1, s2, ir, ul⟩ := hv
  generalize Sc h wd cs = S at *
  generalize isRing h wd cs = rb at *
  -- near
  refine q_asgP (i := 3) (ep_l_points (K := K) (w := w) (us := us) (ea_cons (ev_var rfl) ea_nil) s1 s2 ul) fun v H2 e2 hv => ?_
  obtain ⟨d, ks, rfl, _, na⟩ := hv
  have na : NearAt w us H2 d ks := na
  have s1' := e2 _ _ s1
  have kpts : ∀ e ∈ ks, PtAt H2 e.2.1 e.1 := fun e he => (na.2.1 e he).1
  have kl : ks.length ≤ 1000 := by
    have := nodup_len (m := (dirs us).map (·.1)) na.2.2.1 fun o ho => by
      obtain ⟨z, hz⟩ := List.exists_mem_of_ne_nil _ ((na.2.2.2 o).mp ho)
      rw [← nbrs_dirs] at hz
      unfold nbD at hz
      obtain ⟨e, he, _⟩ := List.mem_map.mp hz
      obtain ⟨e1, e2⟩ := List.mem_filter.mp he
      exact List.mem_map.mpr ⟨e, e1, of_decide_eq_true e2⟩
    rw [List.length_map, List.length_map, dirs_len] at this
    omega
  let ps : List (Addr × Pt) := ks.map fun e => (e.2.1, e.1)
  have psl : ps.length ≤ 1000 := by show (ks.map _).length ≤ 1000; rw [List.length_map]; exact kl
  have psp : ∀ e ∈ ps, PtAt H2 e.1 e.2 := fun e he => by
    obtain ⟨x, hx, rfl⟩ := List.mem_map.mp he
    exact kpts x hx
  have psm : ∀ e ∈ ps, nbrs us e.2 ≠ [] := fun e he => by
    obtain ⟨x, hx, rfl⟩ := List.mem_map.mp he
    exact (na.2.2.2 x.1).mp (List.mem_map.mpr ⟨x, hx, rfl⟩)
  have lst : EvL (tCB (rListN w) (tCons (tVar 3) tNil)) [some (.ref g), some (.ref c), some (.ref sp), some (.ref d), none, none, none, none, none, none] H2 (ps.map fun e => V.ref e.1) := by
    have := el_listN (w := w) (σ := [some (.ref g), some (.ref c), some (.ref sp), some (.ref d), none, none, none, none, none, none]) (ta := tVar 3) (ev_var rfl) na.1
    rw [show (ks.map entP).map (fun e => V.ref e.2.1) = ps.map fun e => V.ref e.1 by rw [List.map_map, List.map_map]; rfl] at this
    exact this
  -- any
  obtain ⟨l, lp, lev⟩ := el_sortPts (K := K) lst psp psl
  have lm : ∀ z ∈ l, ∃ e ∈ ps, z = (V.ref e.1, e.2) := fun z hz => by
    obtain ⟨e, he, rfl⟩ := List.mem_map.mp (lp.mem_iff.mp hz)
    exact ⟨e, he, rfl⟩
  have ll : l.length ≤ 1000 := by rw [lp.length_eq, List.length_map]; exact psl
  have anyE := el_lcG (K := K) (zs := l) (emb := fun z => z.1) (j := 9) (vs := [9]) (t := tYes) (te := tOp rNe (tCB (rLenS K) (tCons (tGetN w (tVar 3) (tVar 9)) tNil)) (tC (.int 2))) (fun _ => true) (fun z => V.bl (!decide ((nbrs us z.2).length = 2))) (es_new lev) (by omega) (fun _ => rfl) (fun _ _ _ _ => et_yes) (fun z H3 e3 hz _ => by
    obtain ⟨e, he, rfl⟩ := lm z hz
    obtain ⟨al, zs, g1, g2, g3, g4⟩ := near_get (σ := [some (.ref g), some (.ref c), some (.ref sp), some (.ref d), none, none, none, none, none, some (.ref e.1)]) (td := tVar 3) (ty := tVar 9) (na.mono e3) (ev_var rfl) (ev_var rfl) ((psp e he).mono (.of e3)) (psm e he)
    refine ev_is (ev_op (x := .int (zs.length : Int)) (y := .int 2) (ev_is (ev_lenS (K := K) (es_of g1 (sq_of g2))) (by rw [List.length_map])) ev_c (rv_ne rfl)) ?_
    rw [g3, List.length_map]
    congr 1
    rw [Bool.eq_iff_iff]
    simp
    omega)
  have anyV := ev_anyS (K := K) (bs := (l.filter fun _ => true).map fun z => !decide ((nbrs us z.2).length = 2)) (es_new (by rw [List.map_map]; exact anyE))
  rw [show (l.filter fun _ => true) = l from List.filter_eq_self.mpr fun _ _ => rfl] at anyV
  generalize hb : ((l.map fun z => !decide ((nbrs us z.2).length = 2)).any id) = b at anyV
  have lenI : b = false ↔ ∀ p, nbrs us p ≠ [] → (nbrs us p).length = 2 := by
    rw [← hb]
    constructor
    · intro hf p hp
      obtain ⟨e, he, rfl⟩ := List.mem_map.mp ((na.2.2.2 p).mpr hp)
      have hm : (V.ref e.2.1, e.1) ∈ l := lp.mem_iff.mpr (List.mem_map.mpr ⟨(e.2.1, e.1), List.mem_map.mpr ⟨e, he, rfl⟩, rfl⟩)
      have := List.any_eq_false.mp hf _ (List.mem_map.mpr ⟨_, hm, rfl⟩)
      simpa using this
    · intro hall
      refine List.any_eq_false.mpr fun x hx => ?_
      obtain ⟨z, hz, rfl⟩ := List.mem_map.mp hx
      obtain ⟨e, he, rfl⟩ := lm z hz
      simpa using hall _ (psm e he)
  rw [← deg_len ir] at lenI
  refine q_when (et_B anyV) (fun hbt H3 e3 => ?_) (fun hbf H3 e3 => ?_)
  · refine s_ret ev_c fun H4 e4 => ?_
    have : rb = false := by
      cases z : rb with
      | false => rfl
      | true =>
        rw [hbt] at lenI
        exact absurd (lenI.mpr (riff.mp z).1) (by decide)
    rw [← this]
    exact q H4 ((((e1.trans e2).trans e3)).trans e4)
  have nd := lenI.mp hbf
  have na3 := na.mono e3
  have psn : ps ≠ [] := fun z => by
    have hk : nbrs us (tail (cellOf wd (cs.headD 0), 0)) ≠ [] := List.ne_nil_of_mem ((mem_nb ir).mpr ⟨_, fr, .inl ⟨rfl, rfl⟩⟩)
    obtain ⟨e, he, _⟩ := List.mem_map.mp ((na.2.2.2 _).mpr hk)
    have hm : (e.2.1, e.1) ∈ ps := List.mem_map.mpr ⟨e, he, rfl⟩
    rw [z] at hm
    cases hm
  refine q_asgP (i := 4) (ep_minPts (K := K) (lst.mono e3) (fun e he => (psp e he).mono (.of e3)) psn) fun v H4 e4 hv => ?_
  obtain ⟨fst, hf, rfl, _⟩ := hv
  have na4 := na3.mono e4
  have hf4 : PtAt H4 fst.1 fst.2 := (psp fst hf).mono (.of (e3.trans e4))
  have hfn := psm fst hf
  obtain ⟨fl, fz, f1, f2, f3, f4⟩ := near_get (σ := [some (.ref g), some (.ref c), some (.ref sp), some (.ref d), some (.ref fst.1), none, none, none, none, none]) (td := tVar 3) (ty := tVar 4) na4 (ev_var rfl) (ev_var rfl) hf4 hfn
  cases fz with
  | nil => exact absurd f3 hfn
  | cons z0 zr =>
  obtain ⟨n, rd, nle, niff⟩ := round_ok wit ir nd (first := fst.2) (q := z0.2) (r := zr.map (fun x : Addr × Pt => x.2)) f3
  refine q_tup3 (K := K) (i := 5) (j := 6) (k := 7) (x := .ref fst.1) (y := .ref z0.1) (z := .int 1) (ev_var rfl) (ev_ixS (K := K) (i := 0) (es_of f1 (sq_of f2)) ev_c at_zero) ev_c fun H5 e5 => ?_
  -- round
  refine q_while (fun m σ' H' => ∃ a b y8 y9, ∃ pa pb : Pt, ∃ k : Nat, σ' = [some (.ref g), some (.ref c), some (.ref sp), some (.ref d), some (.ref fst.1), some (.ref a), some (.ref b), some (.int (k : Int)), y8, y9] ∧ Ex H5 H' ∧ PtAt H' a pa ∧ PtAt H' b pb ∧ roundGo us fst.2 m pa pb k = some n) (us.length + 1)
    ⟨fst.1, z0.1, none, none, fst.2, z0.2, 1, rfl, Ex.refl H5, hf4.mono (.of e5), (f4 z0 List.mem_cons_self).mono (.of e5), rd⟩ (fun m σ' H' hW => ?_)
  obtain ⟨a, b, y8, y9, pa, pb, k, rfl, e6, ha, hbp, hr⟩ := hW
  have hf6 := hf4.mono (.of (e5.trans e6))
  refine ⟨!decide (pb = fst.2), et_is (et_test (ev_neD (K := K) (ed_of (ev_var rfl) hbp.dp) (ed_of (ev_var rfl) hf6.dp) (shaped_dP _ _) (shaped_dP _ _))) (by rw [eqv_dPt]), fun hbt H7 e7 => ?_, fun hbf H7 e7 => ?_⟩
  · cases m with
    | zero => cases hr
    | succ m =>
    have hne : pb ≠ fst.2 := by simpa using hbt
    unfold roundGo at hr
    rw [if_neg hne] at hr
    have hnb : nbrs us pb ≠ [] := fun z => by rw [z] at hr; cases hr
    have na7 := na4.mono ((e5.trans e6).trans e7)
    have ha7 := ha.mono (.of e7)
    obtain ⟨al, zs, g1, g2, g3, g4⟩ := near_get (σ := [some (.ref g), some (.ref c), some (.ref sp), some (.ref d), some (.ref fst.1), some (.ref a), some (.ref b), some (.int (k : Int)), y8, y9]) (td := tVar 3) (ty := tVar 6) na7 (ev_var rfl) (ev_var rfl) (hbp.mono (.of e7)) hnb
    rw [g3] at hr
    have zl : zs.length ≤ 40000 := by
      have := nbD_len (dirs us) pb
      rw [nbrs_dirs, g3, List.length_map, dirs_len] at this
      omega
    have rest := el_lcG (K := K) (σ := [some (.ref g), some (.ref c), some (.ref sp), some (.ref d), some (.ref fst.1), some (.ref a), some (.ref b), some (.int (k : Int)), y8, y9]) (H := H7) (tl := tGetN w (tVar 3) (tVar 6)) (zs := zs) (emb := fun z => V.ref z.1) (j := 9) (vs := [9]) (t := tTest (tOp (rNeD K) (tVar 9) (tVar 5))) (te := tVar 9) (fun z => !decide (z.2 = pa)) (fun z => V.ref z.1) (es_of g1 (sq_of g2)) zl (fun _ => rfl)
      (fun z H8 e8 hz => et_is (et_test (ev_neD (K := K) (ed_of (ev_var rfl) ((g4 z hz).mono (.of e8)).dp) (ed_of (ev_var rfl) (ha7.mono (.of e8)).dp) (shaped_dP _ _) (shaped_dP _ _))) (by rw [eqv_dPt])) (fun _ _ _ _ _ => ev_var rfl)
    refine ⟨fun σ2 H8 => ∃ a b y8 y9, ∃ pa pb : Pt, ∃ k : Nat, σ2 = [some (.ref g), some (.ref c), some (.ref sp), some (.ref d), some (.ref fst.1), some (.ref a), some (.ref b), some (.int (k : Int)), y8, y9] ∧ Ex H5 H8 ∧ PtAt H8 a pa ∧ PtAt H8 b pb ∧ roundGo us fst.2 m pa pb k = some n, fun σ2 H8 z => ⟨m, Nat.lt_succ_self m, z⟩, ?_⟩
    refine q_asgL (i := 8) rest fun rp H8 hrp e8 h8 => ?_
    have fm : (zs.map (·.2)).filter (fun q => !decide (q = pa)) = (zs.filter fun z => !decide (z.2 = pa)).map (·.2) := by
      rw [List.filter_map]
      rfl
    rw [fm] at hr
    have fsub : ∀ z ∈ zs.filter fun z => !decide (z.2 = pa), PtAt H7 z.1 z.2 := fun z hz => g4 z (List.mem_filter.mp hz).1
    generalize (zs.filter fun z => !decide (z.2 = pa)) = fz at hr h8 fsub
    cases fz with
    | nil => cases hr
    | cons y yr =>
    have hr : roundGo us fst.2 m pb y.2 (k + 1) = some n := hr
    refine s_tup3 (K := K) (i := 5) (j := 6) (k := 7) (x := .ref b) (y := .ref y.1) (z := .int ((k + 1 : Nat) : Int)) (ev_var rfl) (ev_ixS (K := K) (i := 0) (es_of (ev_var rfl) (sq_of h8)) ev_c at_zero) (ev_op (x := .int (k : Int)) (y := .int 1) (ev_var rfl) ev_c rv_I0) fun H9 e9 => ?_
    exact ⟨b, y.1, _, _, pb, y.2, k + 1, rfl, ((e6.trans e7).trans e8).trans e9, hbp.mono (.of ((e7.trans e8).trans e9)), (fsub y List.mem_cons_self).mono (.of (e8.trans e9)), hr⟩
  · have heq : pb = fst.2 := by simpa using hbf
    have hk : k = n := by
      cases m with
      | zero => cases hr
      | succ m =>
        unfold roundGo at hr
        rw [if_pos heq] at hr
        exact Option.some.inj hr
    subst hk
    have s7 : SqL K H7 sp (as.map V.ref) := sq_of (((((e3.trans e4).trans e5).trans e6).trans e7) _ _ s1')
    refine s_ret (ev_op (x := .int (k : Int)) (y := .int (us.length : Int)) (ev_var rfl) (ev_is (ev_lenS (K := K) (es_of (ev_var rfl) s7)) (by rw [List.length_map, Paired.length s2])) (rv_eq rfl)) fun H8 e8 => ?_
    have : (decide (V.int (k : Int) = V.int (us.length : Int))) = rb := by
      rw [Bool.eq_iff_iff, riff, ← niff]
      simp only [decide_eq_true_eq, V.int.injEq]
      exact ⟨fun z => ⟨nd, by omega⟩, fun z => by have := z.2; omega⟩
    have e := q H8 (((((((e1.trans e2).trans e3).trans e4).trans e5).trans e6).trans e7).trans e8)
    rw [← this] at e
    exact e

/-! ### sizes -/
theorem bits_lt {z : Int} {k : Nat} (h : Builtin.Int.intBits z ≤ k) : z.natAbs < 2 ^ k := by
  unfold Builtin.Int.intBits at h
  split at h
  · rename_i e
    have : z = 0 := by simpa using e
    subst this
    exact Nat.two_pow_pos k
  · rename_i e
    have ne : z.natAbs ≠ 0 := fun w => e (by have : z = 0 := by omega
                                             simp [this])
    exact (Nat.log2_lt ne).mp (by omega)
theorem abs_sum {k : Nat} : ∀ ns : List Int, (∀ z ∈ ns, z.natAbs < 2 ^ k) → ns.sum.natAbs ≤ ns.length * 2 ^ k
  | [], _ => by simp
  | n :: r, h => by
    have h1 := h n List.mem_cons_self
    have ih := abs_sum r fun z hz => h z (List.mem_cons_of_mem _ hz)
    rw [List.sum_cons, List.length_cons, Nat.succ_mul]
    have := Int.natAbs_add_le n r.sum
    omega
/-- within so many bits -/
def Bits (z : Int) : Prop := ∃ k, k ≤ 3000000 ∧ z.natAbs < 2 ^ k
theorem Bits.small {z : Int} (h : z.natAbs < 1000000) : Bits z := ⟨20, by decide, Nat.lt_trans h (by decide)⟩
theorem pow_mono {a b : Nat} (h : a ≤ b) : 2 ^ a ≤ 2 ^ b := Nat.pow_le_pow_right (by decide) h
theorem sum_bits {ns : List Int} {b : Int} (hl : ns.length ≤ 63) (h : ∀ z ∈ ns, Builtin.Int.intBits z ≤ 1048576) (hb : b.natAbs ≤ 1000) : Bits (ns.sum + b) := by
  have h1 := abs_sum (k := 1048576) ns fun z hz => bits_lt (h z hz)
  refine ⟨1048576 + 7, by decide, ?_⟩
  rw [Nat.pow_add]
  have h2 : ns.length * 2 ^ 1048576 ≤ 63 * 2 ^ 1048576 := Nat.mul_le_mul_right _ hl
  have h3 : 2 ^ 10 ≤ 2 ^ 1048576 := pow_mono (by decide)
  have h4 := Int.natAbs_add_le ns.sum b
  generalize 2 ^ 1048576 = X at *
  have : (2 : Nat) ^ 7 = 128 := by decide
  omega
/-! ### _law_number -/
def sp_l_number (K : PySem.W.Frag) : Sp := fun vs H Q _ => ∃ c a s, vs = [.int c, .int a, .int s] ∧ Bits c ∧ 0 ≤ a ∧ a ≤ 1000 ∧ Bits s ∧ RetV (.int (lNumber c a s)) H Q
theorem ev_l_number {K : PySem.W.Frag} {σ : L2.St} {H : Hp} {ta : TA} {E : XK} {c a s : Int} (ha : EvA ta σ H [.int c, .int a, .int s]) (hc : Bits c) (h0 : 0 ≤ a) (h1 : a ≤ 1000) (hs : Bits s) : Ev (tCall (sp_l_number K) [] E ta) σ H (.int (lNumber c a s)) := fun H1 e Q q =>
  ha H1 e _ fun H2 e2 => ⟨c, a, s, rfl, hc, h0, h1, hs, fun H3 e3 => q H3 (e2.trans e3)⟩
def t_l_number (K : PySem.W.Frag) : TS := (tSeq (tIfS (tTest (tOp oGe (tVar 0) (tOp oPow (tC (.int 10)) (tC (.int 18))))) (tRet (tVar 0)) tNext)
      (tSeq (tAsg (tOp oMod (tOp oAdd (tOp oMul (tOp oAdd (tVar 0) (tOp oMul (tC (.int 977)) (tVar 1))) (tC (.int 48271))) (tVar 2)) (tC (.int 2147483647))) (gName 3))
      (tSeq (tAsg (tOp oMulX (tOp oMul (tVar 3) (tOp oAdd (tOp oAdd (tVar 3) (tOp oMul (tC (.int 31)) (tVar 1))) (tC (.int 7)))) (tOp oAdd (tOp oAdd (tVar 3) (tVar 0)) (tC (.int 5)))) (gName 4))
      (tRet (tOp oDiv (tOp oMulX (tVar 4) (tOp oAdd (tVar 4) (tC (.int 48271)))) (tC (.int 1009)))))))
theorem mulx_of {i j : Int} {a b : Nat} (ha : i.natAbs < 2 ^ a) (hb : j.natAbs < 2 ^ b) (h : a + b ≤ 134217728) : CMulX i j := mulx_ok ha hb h
theorem pure_l_number {K : PySem.W.Frag} {vs : List V} {H : Hp} {Q : VK} {E : XK} {D : Ends} (hD : D.rt = Q) {N : List Str} (hN : N.length = 5) (h : sp_l_number K vs H Q E) : t_l_number K D (start N vs) H := by
  obtain ⟨c, a, s, rfl, hc, h0, h1, hs, q⟩ := h
  subst hD
  rw [start_eq hN]
  change t_l_number K _ [some (.int c), some (.int a), some (.int s), none, none] _
  refine q_when (b := decide ((10 : Int) ^ (18 : Int).toNat ≤ c)) (by walk_at "et") (fun hb H1 e1 => ?_) (fun hb H1 e1 => ?_)
  · have e : lNumber c a s = c := if_pos (of_decide_eq_true hb)
    rw [e] at q
    exact s_ret (ev_var rfl) fun H2 e2 => q H2 (e1.trans e2)
  · have hb' := of_decide_eq_false hb
    refine q_asg (v := .int (((c + 977 * a) * 48271 + s) % 2147483647)) (by walk_at "ev") fun H2 e2 => ?_
    have e : lNumber c a s = (let m := ((c + 977 * a) * 48271 + s) % 2147483647
      let n := m * (m + 31 * a + 7) * (m + c + 5)
      n * (n + 48271) / 1009) := if_neg hb'
    rw [e] at q
    clear e
    have m0 : 0 ≤ ((c + 977 * a) * 48271 + s) % 2147483647 := Int.emod_nonneg _ (by decide)
    have m1 : ((c + 977 * a) * 48271 + s) % 2147483647 < 2147483647 := Int.emod_lt_of_pos _ (by decide)
    generalize ((c + 977 * a) * 48271 + s) % 2147483647 = m at *
    obtain ⟨k, hk, hc⟩ := hc
    have b1 : (m * (m + 31 * a + 7)).natAbs < 2 ^ 64 := by
      rw [Int.natAbs_mul]
      have x1 : m.natAbs < 2 ^ 31 := by omega
      have x2 : (m + 31 * a + 7).natAbs < 2 ^ 32 := by omega
      have := Nat.mul_lt_mul'' x1 x2
      exact Nat.lt_trans this (by decide)
    have b2 : (m + c + 5).natAbs < 2 ^ (k + 33) := by
      rw [Nat.pow_add]
      have : (m + c + 5).natAbs ≤ m.natAbs + c.natAbs + 5 := by omega
      have x1 : m.natAbs < 2 ^ 31 := by omega
      generalize 2 ^ k = X at *
      have : (2 : Nat) ^ 33 = 8589934592 := by decide
      have : (2 : Nat) ^ 31 = 2147483648 := by decide
      omega
    have b3 : (m * (m + 31 * a + 7) * (m + c + 5)).natAbs < 2 ^ (64 + (k + 33)) := by
      rw [Int.natAbs_mul, Nat.pow_add 2 64 (k + 33)]
      exact Nat.mul_lt_mul'' b1 b2
    have b4 : (m * (m + 31 * a + 7) * (m + c + 5) + 48271).natAbs < 2 ^ (64 + (k + 33) + 1) := by
      rw [Nat.pow_add 2 (64 + (k + 33)) 1]
      have x3 : 2 ^ 64 ≤ 2 ^ (64 + (k + 33)) := pow_mono (by omega)
      generalize m * (m + 31 * a + 7) * (m + c + 5) = n at *
      generalize 2 ^ (64 + (k + 33)) = X at *
      have : (2 : Nat) ^ 64 = 18446744073709551616 := by decide
      omega
    refine q_asg (v := .int (m * (m + 31 * a + 7) * (m + c + 5))) (ev_op (x := .int (m * (m + 31 * a + 7))) (y := .int (m + c + 5)) (by walk_at "ev") (by walk_at "ev") (rv_I (mulx_of b1 b2 (by omega)))) fun H3 e3 => ?_
    dsimp only at q
    generalize m * (m + 31 * a + 7) * (m + c + 5) = n at *
    exact s_ret (v := .int (n * (n + 48271) / 1009)) (ev_op (x := .int (n * (n + 48271))) (y := .int 1009) (ev_op (x := .int n) (y := .int (n + 48271)) (ev_var rfl) (by walk_at "ev") (rv_I (mulx_of b3 b4 (by omega)))) ev_c (rv_I ⟨by decide, by decide⟩)) fun H4 e4 => q H4 (((e1.trans e2).trans e3).trans e4)
/-! ### _law_whole -/
def sp_l_whole (K : PySem.W.Frag) : Sp := sp_is_whole K
def t_l_whole (K : PySem.W.Frag) : TS := (tRet (tAndV (tCB (rIsi K) (tCons (tVar 0) (tCons (tC (.ty "int")) tNil))) (tNotV (tCB (rIsi K) (tCons (tVar 0) (tCons (tC (.ty "bool")) tNil))))))
theorem pure_l_whole {K : PySem.W.Frag} {vs : List V} {H : Hp} {Q : VK} {E : XK} {D : Ends} (hD : D.rt = Q) {N : List Str} (hN : N.length = 1) (h : sp_l_whole K vs H Q E) : t_l_whole K D (start N vs) H := by
  have w := pure_is_whole (K := K) hD h
  obtain ⟨v, n, rfl, hk, q⟩ := h
  rw [start_eq hN]
  change t_l_whole K _ [some v] _
  exact w
/-! ### _law_grid -/
theorem lGridGo_ok {most : Nat} (hm : 1 ≤ most) : ∀ (k h w : Nat), 1 ≤ h → h ≤ 6 → 1 ≤ w → w ≤ 6 → h + w ≤ k + 2 → GOk (lGridGo most k h w).1 (lGridGo most k h w).2 ∧ (lGridGo most k h w).1 * (lGridGo most k h w).2 ≤ most
  | 0, h, w, h1, h2, h3, h4, hk => by
    have : h = 1 := by omega
    have : w = 1 := by omega
    subst h w
    exact ⟨(⟨by decide, by decide, by decide, by decide⟩ : GOk 1 1), hm⟩
  | k + 1, h, w, h1, h2, h3, h4, hk => by
    unfold lGridGo
    split
    · rename_i hc
      split
      · exact lGridGo_ok hm k (h - 1) w (by omega) (by omega) h3 h4 (by omega)
      · rename_i hn
        have : 2 ≤ w := by
          refine Nat.lt_of_not_le fun z => ?_
          have : w = 1 := by omega
          have : h = 1 := by omega
          subst h w
          omega
        exact lGridGo_ok hm k h (w - 1) h1 h2 (by omega) (by omega) (by omega)
    · rename_i hc
      exact ⟨⟨h1, h2, h3, h4⟩, Nat.le_of_not_lt hc⟩
theorem lGrid_ok (n : Int) {most : Nat} (hm : 1 ≤ most) : GOk (lGrid n most).1 (lGrid n most).2 ∧ (lGrid n most).1 * (lGrid n most).2 ≤ most := lGridGo_ok hm 12 _ _ (by omega) (by omega) (by omega) (by omega) (by omega)
def sp_l_grid (K : PySem.W.Frag) : Sp := fun vs H Q _ => ∃ n most, vs = [.int n, .int ((most : Nat) : Int)] ∧ 1 ≤ most ∧ most ≤ 1000 ∧ ∀ p H2, H p = none → Ex H H2 → H2 p = some (.tup [.int (((lGrid n most).1 : Nat) : Int), .int (((lGrid n most).2 : Nat) : Int)]) → Q (.ref p) H2
theorem eu_l_grid {K : PySem.W.Frag} {σ : L2.St} {H : Hp} {ta : TA} {E : XK} {n : Int} {most : Nat} (ha : EvA ta σ H [.int n, .int (most : Int)]) (h1 : 1 ≤ most) (h2 : most ≤ 1000) : EvU (tCall (sp_l_grid K) [] E ta) σ H [.int (((lGrid n most).1 : Nat) : Int), .int (((lGrid n most).2 : Nat) : Int)] := fun H1 e Q q =>
  ha H1 e _ fun H2 e2 => ⟨n, most, rfl, h1, h2, fun p H3 hp e3 h3 => q p H3 (fresh_back e2 hp) (e2.trans e3) h3⟩
def t_l_grid (K : PySem.W.Frag) : TS := (tSeq (tPar 2 3 (tCons (tOp oAdd (tC (.int 1)) (tOp oMod (tVar 0) (tC (.int 6)))) (tCons (tOp oAdd (tC (.int 1)) (tOp oMod (tOp oDiv (tVar 0) (tC (.int 6))) (tC (.int 6)))) tNil)))
      (tSeq (tWhile (tTest (tOp oGt (tOp oMul (tVar 2) (tVar 3)) (tVar 1))) (tAsg (tIf (tTest (tOp oGt (tVar 2) (tVar 3))) (tTup (tCons (tOp oSub (tVar 2) (tC (.int 1))) (tCons (tVar 3) tNil))) (tTup (tCons (tVar 2) (tCons (tOp oSub (tVar 3) (tC (.int 1))) tNil)))) (gTup K 2 (gCons (gName 2) (gCons (gName 3) gNil)))))
      (tRet (tTup (tCons (tVar 2) (tCons (tVar 3) tNil))))))
theorem pure_l_grid {K : PySem.W.Frag} {vs : List V} {H : Hp} {Q : VK} {E : XK} {D : Ends} (hD : D.rt = Q) {N : List Str} (hN : N.length = 4) (h : sp_l_grid K vs H Q E) : t_l_grid K D (start N vs) H := by
  obtain ⟨n, most, rfl, hm, hm2, q⟩ := h
  subst hD
  rw [start_eq hN]
  change t_l_grid K _ [some (.int n), some (.int ((most : Nat) : Int)), none, none] _
  refine q_par (i := 2) (j := 3) (x := .int (1 + n % 6)) (y := .int (1 + n / 6 % 6)) (by walk_at "ev") (by walk_at "ev") fun H1 e1 => ?_
  have hh : (1 + n % 6) = (((1 + n % 6).toNat : Nat) : Int) := by omega
  have hw : (1 + n / 6 % 6) = (((1 + n / 6 % 6).toNat : Nat) : Int) := by omega
  rw [hh, hw]
  refine q_while (fun m σ' H' => ∃ h w : Nat, σ' = [some (.int n), some (.int (most : Int)), some (.int (h : Int)), some (.int (w : Int))] ∧ Ex H H' ∧ 1 ≤ h ∧ h ≤ 6 ∧ 1 ≤ w ∧ w ≤ 6 ∧ h + w ≤ m + 2 ∧ lGridGo most m h w = lGrid n most) 12 ⟨_, _, rfl, e1, by omega, by omega, by omega, by omega, by omega, rfl⟩ fun m σ' H' hW => ?_
  obtain ⟨h, w, rfl, e2, h1, h2, h3, h4, hk, hg⟩ := hW
  have cast : ((h : Int) * (w : Int)) = ((h * w : Nat) : Int) := by rw [Int.natCast_mul]
  refine ⟨decide ((most : Int) < (h : Int) * w), by walk_at "et", fun hb H3 e3 => ?_, fun hb H3 e3 => ?_⟩
  · have hb' := of_decide_eq_true hb
    have hlt : most < h * w := by rw [cast] at hb'; omega
    cases m with
    | zero =>
      exfalso
      have : h = 1 := by omega
      have : w = 1 := by omega
      subst h w
      omega
    | succ m =>
      unfold lGridGo at hg
      rw [if_pos hlt] at hg
      refine ⟨fun σ2 H2 => ∃ h w : Nat, σ2 = [some (.int n), some (.int (most : Int)), some (.int (h : Int)), some (.int (w : Int))] ∧ Ex H H2 ∧ 1 ≤ h ∧ h ≤ 6 ∧ 1 ≤ w ∧ w ≤ 6 ∧ h + w ≤ m + 2 ∧ lGridGo most m h w = lGrid n most, fun σ2 H2 z => ⟨m, by omega, z⟩, ?_⟩
      by_cases hc : w < h
      · rw [if_pos hc] at hg
        have e : ((h : Int) - 1) = ((h - 1 : Nat) : Int) := by omega
        refine s_unp (i := 2) (j := 3) (x := .int ((h : Int) - 1)) (y := .int (w : Int)) (est_new (eu_if (b := true) (et_is (b := true) (et_test (ev_op (x := .int (h : Int)) (y := .int (w : Int)) (ev_var rfl) (ev_var rfl) rv_I0)) (decide_eq_true (by omega))) (fun _ => eu_tup (by walk_at "ea") (by simp)) (fun z => nomatch z))) fun H4 e4 => ?_
        rw [e]
        exact ⟨h - 1, w, rfl, (e2.trans e3).trans e4, by omega, by omega, h3, h4, by omega, hg⟩
      · rw [if_neg hc] at hg
        have e : ((w : Int) - 1) = ((w - 1 : Nat) : Int) := by omega
        have w2 : 2 ≤ w := by
          refine Nat.lt_of_not_le fun z => ?_
          have : w = 1 := by omega
          have : h = 1 := by omega
          subst h w
          omega
        refine s_unp (i := 2) (j := 3) (x := .int (h : Int)) (y := .int ((w : Int) - 1)) (est_new (eu_if (b := false) (et_is (b := false) (et_test (ev_op (x := .int (h : Int)) (y := .int (w : Int)) (ev_var rfl) (ev_var rfl) rv_I0)) (decide_eq_false (by omega))) (fun z => nomatch z) (fun _ => eu_tup (by walk_at "ea") (by simp)))) fun H4 e4 => ?_
        rw [e]
        exact ⟨h, w - 1, rfl, (e2.trans e3).trans e4, h1, h2, by omega, by omega, by omega, hg⟩
  · have hb' := of_decide_eq_false hb
    have hlt : ¬ most < h * w := by rw [cast] at hb'; omega
    have e : lGrid n most = (h, w) := by
      rw [← hg]
      cases m with
      | zero => rfl
      | succ m => unfold lGridGo; rw [if_neg hlt]
    refine s_retU (xs := [.int (h : Int), .int (w : Int)]) (eu_tup (by walk_at "ea") (by simp)) fun p H4 hp e4 h4 => q p H4 (fresh_back (e2.trans e3) hp) ((e2.trans e3).trans e4) ?_
    rw [e]
    exact h4

/-! ### _law_cells -/
theorem drawn_ok {ns : List Int} (h : ScriptOk ns) : ScriptOk (lDrawn ns) ∧ 1 ≤ (lDrawn ns).length := by
  unfold lDrawn
  split
  · refine ⟨⟨by decide, fun z hz => ?_⟩, by decide⟩
    have : z = 5 := by simpa using hz
    rw [this]
    decide
  · rename_i hn
    refine ⟨⟨by rw [List.length_take]; omega, fun z hz => h.2 z (List.mem_of_mem_take hz)⟩, ?_⟩
    have : 0 < ns.length := List.length_pos_iff.mpr hn
    rw [List.length_take]
    omega
theorem bits_mem {ns : List Int} (h : ScriptOk ns) {z : Int} (hz : z ∈ ns) : Bits z := ⟨1048576, by decide, bits_lt (h.2 z hz)⟩
theorem lCells0_mem {ns : List Int} {b : Int} {m : Nat} : ∀ x ∈ lCells0 ns b m, 0 ≤ x ∧ x < (m : Int) := fun x hx => by
  unfold lCells0 at hx
  obtain ⟨a, ha, rfl⟩ := List.mem_map.mp hx
  have := List.mem_range.mp (List.mem_filter.mp ha).1
  omega
theorem rising_range (m : Nat) (f : Nat → Bool) : Rising (((List.range m).filter f).map fun (a : Nat) => (a : Int)) := by
  unfold Rising
  rw [List.pairwise_map]
  exact ((List.pairwise_lt_range).filter f).imp fun h => by omega
theorem lCells0_rising (ns : List Int) (b : Int) (m : Nat) : Rising (lCells0 ns b m) := rising_range m _
theorem orOne_ok {h w : Nat} (gk : GOk h w) {f : List Int} (s : Int) (hm : InGrid h w f) (hr : Rising f) : COk h w (if f = [] then [s % ((h : Int) * w)] else f) := by
  have hb := hw_le gk
  split
  · refine ⟨List.cons_ne_nil _ _, fun x hx => ?_, List.pairwise_singleton _ _⟩
    have : x = s % ((h : Int) * w) := by simpa using hx
    rw [this]
    exact ⟨Int.emod_nonneg _ (by omega), Int.emod_lt_of_pos _ (by omega)⟩
  · rename_i hn
    exact ⟨hn, hm, hr⟩
theorem lCells_ok (ns : List Int) (b : Int) {h w : Nat} (gk : GOk h w) : COk h w (lCells ns b h w) := by
  have e : ((h * w : Nat) : Int) = (h : Int) * w := Int.natCast_mul h w
  have m0 : InGrid h w (lCells0 ns b (h * w)) := fun x hx => by
    have := lCells0_mem x hx
    omega
  have r0 := lCells0_rising ns b (h * w)
  unfold lCells
  dsimp only
  refine orOne_ok gk _ ?_ ?_
  · split
    · exact fun x hx => m0 x (List.mem_filter.mp (List.mem_filter.mp hx).1).1
    · exact m0
  · split
    · exact (r0.filter _).filter _
    · exact r0
def sp_l_cells (K : PySem.W.Frag) : Sp := fun vs H Q _ => ∃ a g b h w ns, vs = [.ref a, .int b, .ref g] ∧ SqL K H a ((ns : List Int).map V.int) ∧ ScriptOk ns ∧ 0 ≤ b ∧ b ≤ 100 ∧ SqT K H g [.int ((h : Nat) : Int), .int ((w : Nat) : Int)] ∧ GOk h w ∧ RetL ((lCells ns b h w).map V.int) H Q
theorem el_l_cells {K : PySem.W.Frag} {σ : L2.St} {H : Hp} {ta : TA} {E : XK} {a g : Addr} {b : Int} {h w : Nat} {ns : List Int} (ha : EvA ta σ H [.ref a, .int b, .ref g]) (hn : SqL K H a (ns.map V.int)) (sk : ScriptOk ns) (b0 : 0 ≤ b) (b1 : b ≤ 100) (hs : SqT K H g [.int (h : Int), .int (w : Int)]) (gk : GOk h w) :
    EvL (tCall (sp_l_cells K) [] E ta) σ H ((lCells ns b h w).map V.int) := fun H1 e Q q =>
  ha H1 e _ fun H2 e2 => ⟨a, g, b, h, w, ns, rfl, ex_l (e.trans e2) hn, sk, b0, b1, ex_t (e.trans e2) hs, gk, fun p H3 hp e3 h3 => q p H3 (fresh_back e2 hp) (e2.trans e3) h3⟩
def t_l_cells (K : PySem.W.Frag) : TS := (tSeq (tAsg (tIf (tTest (tOp (rNeD K) (tVar 0) (tLst tNil))) (tSl (rSlL K) (tVar 0) tNoPart (tPart (tC (.int 63)))) (tLst (tCons (tC (.int 5)) tNil))) (gName 3))
      (tSeq (tAsg (tOp oAdd (tCB (rSum K) (tCons (tVar 3) tNil)) (tVar 1)) (gName 4))
      (tSeq (tPar 5 6 (tCons (tOp oMul (tOp (rIxT K) (tVar 2) (tC (.int 0))) (tOp (rIxT K) (tVar 2) (tC (.int 1)))) (tCons (tLst tNil) tNil)))
      (tSeq (tFor (iRng1 (tCons (tVar 5) tNil)) (gName 7) (tSeq (tAsg (tOp oDiv (tCall (sp_l_number K) [] E0 (tCons (tOp (rIxL K) (tVar 3) (tOp oMod (tOp oAdd (tVar 7) (tVar 1)) (tCB (rLenS K) (tCons (tVar 3) tNil)))) (tCons (tOp oAdd (tVar 7) (tVar 1)) (tCons (tVar 4) tNil)))) (tC (.int 3))) (gName 8))
      (tIfS (tTest (tOp oGt (tOp (rIxT K) (tTup (tCons (tOp oMod (tVar 8) (tC (.int 2))) (tCons (tOp oMod (tVar 8) (tC (.int 3))) (tCons (tC (.int 1)) (tCons (tOp oMod (tVar 8) (tC (.int 5))) tNil))))) (tOp oMod (tVar 4) (tC (.int 4)))) (tC (.int 0)))) (tDrop (tBM K "list" rAppend (tVar 6) (tCons (tVar 7) tNil))) tNext)))
      (tSeq (tIfS (tTest (tOp rEq (tOp oMod (tVar 4) (tC (.int 4))) (tC (.int 2)))) (tSeq (tAsg (tLc (iList K (tVar 6)) (gName 9) (tTest (tOp oGe (tOp oDiv (tVar 9) (tOp (rIxT K) (tVar 2) (tC (.int 1)))) (tOp oMod (tOp oDiv (tVar 4) (tC (.int 4))) (tOp (rIxT K) (tVar 2) (tC (.int 0)))))) (tVar 9) [9]) (gName 6))
      (tAsg (tLc (iList K (tVar 6)) (gName 9) (tTest (tOp oLe (tOp oMod (tVar 9) (tOp (rIxT K) (tVar 2) (tC (.int 1)))) (tOp oMod (tOp oDiv (tVar 4) (tC (.int 8))) (tOp (rIxT K) (tVar 2) (tC (.int 1)))))) (tVar 9) [9]) (gName 6))) tNext)
      (tRet (tIf (tTest (tOp (rNeD K) (tVar 6) (tLst tNil))) (tVar 6) (tLst (tCons (tOp oMod (tVar 4) (tVar 5)) tNil)))))))))
theorem eqv_ints_nil (ns : List Int) : PyData.eqv (dI ns) (.list []) = decide (ns = []) := by
  unfold dI
  rw [eqv_nil]
  cases ns <;> simp
section
variable {K : PySem.W.Frag} {σ : L2.St} {H H' : Hp} {ta tb te : TE} {t : TT} {D : Ends}
theorem s_retIf {b : Bool} (h : EvT t σ H b) (h1 : b = true → ∀ H1, Ex H H1 → tRet ta D σ H1) (h2 : b = false → ∀ H1, Ex H H1 → tRet tb D σ H1) : tRet (tIf t ta tb) D σ H := h H (Ex.refl H) _ fun H1 e => by
  cases b with
  | true =>
    show ta σ H1 D.rt
    exact h1 rfl H1 e
  | false =>
    show tb σ H1 D.rt
    exact h2 rfl H1 e
end
theorem pick_at (n k : Int) (h0 : 0 ≤ k) (h4 : k < 4) : atI [V.int (n % 2), V.int (n % 3), V.int 1, V.int (n % 5)] k = some (V.int (lPick n k)) := by
  have : k = 0 ∨ k = 1 ∨ k = 2 ∨ k = 3 := by omega
  rcases this with rfl | rfl | rfl | rfl <;> rfl
theorem getD_at {ds : List Int} {i : Int} (h0 : 0 ≤ i) (h1 : i < (ds.length : Int)) : atI (ds.map V.int) i = some (.int (ds.getD i.toNat 0)) := by
  have hi : i.toNat < ds.length := by omega
  have e : (ds.map V.int)[i.toNat]? = some (.int (ds.getD i.toNat 0)) := by
    rw [List.getElem?_map, List.getElem?_eq_getElem hi, List.getD_eq_getElem?_getD, List.getElem?_eq_getElem hi]
    rfl
  have := atI_nat e
  rwa [show ((i.toNat : Nat) : Int) = i by omega] at this
theorem getD_mem {ds : List Int} {j : Nat} (h1 : j < ds.length) : ds.getD j 0 ∈ ds := by
  rw [List.getD_eq_getElem?_getD, List.getElem?_eq_getElem h1]
  exact List.getElem_mem h1
theorem pure_l_cells {K : PySem.W.Frag} {vs : List V} {H : Hp} {Q : VK} {E : XK} {D : Ends} (hD : D.rt = Q) {N : List Str} (hN : N.length = 10) (h : sp_l_cells K vs H Q E) : t_l_cells K D (start N vs) H := by
  obtain ⟨a, g, b, h, w, ns, rfl, hn, sk, b0, b1, hs, gk, q⟩ := h
  subst hD
  rw [start_eq hN]
  change t_l_cells K D [some (.ref a), some (.int b), some (.ref g), none, none, none, none, none, none, none] H
  have gb := gk
  obtain ⟨g1, g2, g3, g4⟩ := gb
  have hwl := hw_le gk
  obtain ⟨dk, dl⟩ := drawn_ok sk
  have cast : ((h * w : Nat) : Int) = (h : Int) * w := Int.natCast_mul h w
  -- drawn
  refine q_asgL (i := 3) (xs := (lDrawn ns).map V.int) (el_if (b := !decide (ns = [])) (et_is (et_test (ev_neD (ed_ints (es_of (ev_var rfl) hn)) ed_nil (shaped_ints ns) shaped_nil)) (by rw [eqv_ints_nil])) (fun hb => ?_) (fun hb => ?_)) fun d H1 hd e1 h1 => ?_
  · have hb' : ¬ ns = [] := by simpa using hb
    have := el_sl (K := K) (te := tVar 0) (σ := [some (.ref a), some (.int b), some (.ref g), none, none, none, none, none, none, none]) (H := H) (hi := some 63) (ev_var (i := 0) rfl) eo_none (eo_some ev_c) hn
    rw [show (some (63 : Int)) = some ((63 : Nat) : Int) from rfl, cutTo, ← List.map_take] at this
    rw [show lDrawn ns = ns.take 63 from if_neg hb']
    exact this
  · have hb' : ns = [] := by simpa using hb
    rw [show lDrawn ns = [5] from if_pos hb']
    exact el_lst (ea_cons ev_c ea_nil) (by simp)
  have hd1 : SqL K H1 d ((lDrawn ns).map V.int) := sq_of h1
  have hs1 := ex_t e1 hs
  refine q_asg (i := 4) (v := .int ((lDrawn ns).sum + b)) (by walk_at "ev") fun H2 e2 => ?_
  have hs2 := ex_t e2 hs1
  have hd2 := ex_l e2 hd1
  refine q_parL (i := 5) (j := 6) (x := .int ((h : Int) * w)) (xs := []) (by walk_at "ev") (el_lst ea_nil (by simp)) fun p H3 hp e3 h3 => ?_
  have hs3 := ex_t e3 hs2
  have hd3 := ex_l e3 hd2
  have sb : Bits ((lDrawn ns).sum + b) := sum_bits dk.1 dk.2 (by omega)
  -- what follows the two ifs
  have fin : ∀ (p' : Addr) (fs : List Int) (y7 y8 y9 : Option V) (H4 : Hp), H2 p' = none → Ex H2 H4 → H4 p' = some (.lst (fs.map V.int)) → (if fs = [] then [((lDrawn ns).sum + b) % ((h : Int) * w)] else fs) = lCells ns b h w →
      tRet (tIf (tTest (tOp (rNeD K) (tVar 6) (tLst tNil))) (tVar 6) (tLst (tCons (tOp oMod (tVar 4) (tVar 5)) tNil))) D [some (.ref a), some (.int b), some (.ref g), some (.ref d), some (.int ((lDrawn ns).sum + b)), some (.int ((h : Int) * w)), some (.ref p'), y7, y8, y9] H4 := by
    intro p' fs y7 y8 y9 H4 hp' e4 h4 he
    refine s_retIf (b := !decide (fs = [])) (et_is (et_test (ev_neD (ed_ints (es_of (K := K) (ev_var rfl) (sq_of h4))) ed_nil (shaped_ints fs) shaped_nil)) (by rw [eqv_ints_nil])) (fun hb H5 e5 => ?_) (fun hb H5 e5 => ?_)
    · have hb' : ¬ fs = [] := by simpa using hb
      rw [if_neg hb'] at he
      refine s_ret (ev_var rfl) fun H6 e6 => q p' H6 (fresh_back (e1.trans e2) hp') ((((e1.trans e2).trans e4).trans e5).trans e6) ?_
      rw [← he]
      exact e6 _ _ (e5 _ _ h4)
    · have hb' : fs = [] := by simpa using hb
      rw [if_pos hb'] at he
      refine s_retL (xs := [.int (((lDrawn ns).sum + b) % ((h : Int) * w))]) (el_lst (ea_cons (ev_op (x := .int ((lDrawn ns).sum + b)) (y := .int ((h : Int) * w)) (ev_var rfl) (ev_var rfl) (rv_I (by show (0 : Int) < _; omega))) ea_nil) (by simp)) fun p6 H6 hp6 e6 h6 => q p6 H6 (fresh_back (((e1.trans e2).trans e4).trans e5) hp6) ((((e1.trans e2).trans e4).trans e5).trans e6) ?_
      rw [← he]
      exact h6
  have hm : ((h : Int) * w).toNat = h * w := by rw [← cast]; exact Int.toNat_natCast _
  refine q_forR1 (j := 7) (n := (h : Int) * w) (ea_cons (ev_var rfl) ea_nil) ⟨by omega, by omega⟩ (fun i σ' H' => ∃ y7 y8, σ' = [some (.ref a), some (.int b), some (.ref g), some (.ref d), some (.int ((lDrawn ns).sum + b)), some (.int ((h : Int) * w)), some (.ref p), y7, y8, none] ∧ Ex H2 H' ∧ H' p = some (.lst ((lCells0 ns b i).map V.int))) (fun H4 e4 => ⟨none, none, rfl, e3.trans e4, e4 _ _ h3⟩) (fun i σ' H' hi hP => ?_) (fun σ' H' hP => ?_)
  · obtain ⟨y7, y8, rfl, e4, h4⟩ := hP
    have hd4 := ex_l e4 hd2
    have li : i < h * w := by omega
    have ix0 : 0 ≤ ((i : Int) + b) % ((lDrawn ns).length : Int) := Int.emod_nonneg _ (by omega)
    have ix1 : ((i : Int) + b) % ((lDrawn ns).length : Int) < ((lDrawn ns).length : Int) := Int.emod_lt_of_pos _ (by omega)
    have mem := getD_mem (ds := lDrawn ns) (j := (((i : Int) + b) % ((lDrawn ns).length : Int)).toNat) (by omega)
    have ll : ((lDrawn ns).map V.int).length = (lDrawn ns).length := List.length_map ..
    have item : Ev (tOp (rIxL K) (tVar 3) (tOp oMod (tOp oAdd (tVar 7) (tVar 1)) (tCB (rLenS K) (tCons (tVar 3) tNil)))) [some (.ref a), some (.int b), some (.ref g), some (.ref d), some (.int ((lDrawn ns).sum + b)), some (.int ((h : Int) * w)), some (.ref p), some (.int (i : Int)), y8, none] H'
        (.int ((lDrawn ns).getD (((i : Int) + b) % ((lDrawn ns).length : Int)).toNat 0)) := by
      refine ev_ixS (i := ((i : Int) + b) % ((lDrawn ns).length : Int)) (es_of (ev_var rfl) hd4) ?_ (getD_at ix0 ix1)
      refine ev_op (x := .int ((i : Int) + b)) (y := .int ((lDrawn ns).length : Int)) (by walk_at "ev") (ev_is (ev_lenS (es_of (ev_var rfl) hd4)) (by rw [ll])) (rv_I (by show (0 : Int) < _; omega))
    have num := ev_l_number (K := K) (E := E0) (ea_cons item (ea_cons (ta := tOp oAdd (tVar 7) (tVar 1)) (x := .int ((i : Int) + b)) (by walk_at "ev") (ea_cons (ta := tVar 4) (x := .int ((lDrawn ns).sum + b)) (ev_var rfl) ea_nil))) (bits_mem dk mem) (by omega) (by omega) sb
    refine q_asg (i := 8) (ev_op (y := .int 3) num ev_c (rv_I ⟨by decide, by decide⟩)) fun H5 e5 => ?_
    have h5 := e5 _ _ h4
    have s0 : 0 ≤ ((lDrawn ns).sum + b) % 4 := Int.emod_nonneg _ (by decide)
    have s4 : ((lDrawn ns).sum + b) % 4 < 4 := Int.emod_lt_of_pos _ (by decide)
    have ek : lKeep ns b i = decide (0 < lPick (lNumber ((lDrawn ns).getD (((i : Int) + b) % ((lDrawn ns).length : Int)).toNat 0) ((i : Int) + b) ((lDrawn ns).sum + b) / 3) (((lDrawn ns).sum + b) % 4)) := rfl
    generalize lNumber ((lDrawn ns).getD (((i : Int) + b) % ((lDrawn ns).length : Int)).toNat 0) ((i : Int) + b) ((lDrawn ns).sum + b) / 3 = nn at *
    have tst : EvT (tTest (tOp oGt (tOp (rIxT K) (tTup (tCons (tOp oMod (tVar 8) (tC (.int 2))) (tCons (tOp oMod (tVar 8) (tC (.int 3))) (tCons (tC (.int 1)) (tCons (tOp oMod (tVar 8) (tC (.int 5))) tNil))))) (tOp oMod (tVar 4) (tC (.int 4)))) (tC (.int 0)))) [some (.ref a), some (.int b), some (.ref g), some (.ref d), some (.int ((lDrawn ns).sum + b)), some (.int ((h : Int) * w)), some (.ref p), some (.int (i : Int)), some (.int nn), none] H5 (lKeep ns b i) := by
      rw [ek]
      exact et_test (ev_op (x := .int (lPick nn (((lDrawn ns).sum + b) % 4))) (y := .int 0) (ev_ixT (i := ((lDrawn ns).sum + b) % 4) (xs := [V.int (nn % 2), V.int (nn % 3), V.int 1, V.int (nn % 5)]) (est_new (eu_tup (by walk_at "ea") (by simp))) (by walk_at "ev") (pick_at nn _ s0 s4)) ev_c rv_I0)
    have ln : ((lCells0 ns b i).map V.int).length < 100000 := by
      rw [List.length_map]
      unfold lCells0
      rw [List.length_map]
      have := List.length_filter_le (lKeep ns b) (List.range i)
      rw [List.length_range] at this
      omega
    have step : ∀ k : Bool, lKeep ns b i = k → (lCells0 ns b (i + 1)).map V.int = (lCells0 ns b i).map V.int ++ if k = true then [V.int (i : Int)] else [] := by
      intro k hk
      unfold lCells0
      rw [List.range_succ, List.filter_append, List.map_append, List.map_append]
      congr 1
      rw [List.filter_cons, hk]
      cases k <;> rfl
    refine s_when tst (fun hb H6 e6 => ?_) (fun hb H6 e6 => ?_)
    · refine s_app (K := K) (v := .int (i : Int)) (e6 _ _ h5) (ev_var rfl) (ev_var rfl) ln fun H7 e7 => ⟨_, _, rfl, Ex.mut (((e4.trans e5).trans e6).trans e7) hp, ?_⟩
      rw [upd_same, step true hb]
      rfl
    · refine ⟨_, _, rfl, (e4.trans e5).trans e6, ?_⟩
      rw [step false hb]
      show H6 p = some (.lst ((lCells0 ns b i).map V.int ++ []))
      rw [List.append_nil]
      exact e6 _ _ h5
  · obtain ⟨y7, y8, rfl, e4, h4⟩ := hP
    rw [hm] at h4
    have cl : (lCells0 ns b (h * w)).length ≤ 40000 := by
      unfold lCells0
      rw [List.length_map]
      have := List.length_filter_le (lKeep ns b) (List.range (h * w))
      rw [List.length_range] at this
      omega
    have ht : EvT (tTest (tOp rEq (tOp oMod (tVar 4) (tC (.int 4))) (tC (.int 2)))) [some (.ref a), some (.int b), some (.ref g), some (.ref d), some (.int ((lDrawn ns).sum + b)), some (.int ((h : Int) * w)), some (.ref p), y7, y8, none] H' (decide (((lDrawn ns).sum + b) % 4 = 2)) :=
      et_is (et_test (ev_op (x := .int (((lDrawn ns).sum + b) % 4)) (y := .int 2) (by walk_at "ev") ev_c (rv_eq rfl))) (by rw [Bool.eq_iff_iff]; simp)
    refine q_when ht (fun hb H5 e5 => ?_) (fun hb H5 e5 => ?_)
    · have hb' := of_decide_eq_true hb
      have hs5 := ex_t (e4.trans e5) hs2
      have l1 := el_lcI (K := K) (ns := lCells0 ns b (h * w)) (j := 9) (vs := [9]) (tl := tVar 6) (te := tVar 9) (σ := [some (.ref a), some (.int b), some (.ref g), some (.ref d), some (.int ((lDrawn ns).sum + b)), some (.int ((h : Int) * w)), some (.ref p), y7, y8, none]) (H := H5)
        (t := tTest (tOp oGe (tOp oDiv (tVar 9) (tOp (rIxT K) (tVar 2) (tC (.int 1)))) (tOp oMod (tOp oDiv (tVar 4) (tC (.int 4))) (tOp (rIxT K) (tVar 2) (tC (.int 0)))))) (fun c => decide (((lDrawn ns).sum + b) / 4 % (h : Int) ≤ c / (w : Int))) V.int (es_of (ev_var rfl) (sq_of (e5 _ _ h4))) cl (fun x => rfl)
        (fun n H6 e6 hn => by
          have hs6 := ex_t e6 hs5
          exact et_test (ev_op (x := .int (n / (w : Int))) (y := .int (((lDrawn ns).sum + b) / 4 % (h : Int))) (by walk_at "ev") (by walk_at "ev") rv_I0)) (fun n H6 e6 hn _ => ev_var rfl)
      refine q_asgL (i := 6) l1 fun p6 H6 hp6 e6 h6 => ?_
      have hs6 := ex_t e6 hs5
      have l2 := el_lcI (K := K) (ns := (lCells0 ns b (h * w)).filter fun c => decide (((lDrawn ns).sum + b) / 4 % (h : Int) ≤ c / (w : Int))) (j := 9) (vs := [9]) (tl := tVar 6) (te := tVar 9) (σ := [some (.ref a), some (.int b), some (.ref g), some (.ref d), some (.int ((lDrawn ns).sum + b)), some (.int ((h : Int) * w)), some (.ref p6), y7, y8, none]) (H := H6)
        (t := tTest (tOp oLe (tOp oMod (tVar 9) (tOp (rIxT K) (tVar 2) (tC (.int 1)))) (tOp oMod (tOp oDiv (tVar 4) (tC (.int 8))) (tOp (rIxT K) (tVar 2) (tC (.int 1)))))) (fun c => decide (c % (w : Int) ≤ ((lDrawn ns).sum + b) / 8 % (w : Int))) V.int (es_of (ev_var rfl) (sq_of h6)) (Nat.le_trans (List.length_filter_le _ _) cl) (fun x => rfl)
        (fun n H7 e7 hn => by
          have hs7 := ex_t e7 hs6
          exact et_test (ev_op (x := .int (n % (w : Int))) (y := .int (((lDrawn ns).sum + b) / 8 % (w : Int))) (by walk_at "ev") (by walk_at "ev") rv_I0)) (fun n H7 e7 hn _ => ev_var rfl)
      refine s_asgL (i := 6) l2 fun p7 H7 hp7 e7 h7 => ?_
      refine fin p7 _ y7 y8 none H7 (fresh_back ((e4.trans e5).trans e6) hp7) (((e4.trans e5).trans e6).trans e7) h7 ?_
      unfold lCells
      dsimp only
      rw [if_pos hb']
    · have hb' := of_decide_eq_false hb
      refine fin p _ y7 y8 none H5 hp (e4.trans e5) (e5 _ _ h4) ?_
      unfold lCells
      dsimp only
      rw [if_neg hb']

/-! ### _law_beside -/
def sp_l_beside (K : PySem.W.Frag) : Sp := fun vs H Q _ => ∃ g h w x, vs = [.ref g, .int x] ∧ SqT K H g [.int ((h : Nat) : Int), .int ((w : Nat) : Int)] ∧ GOk h w ∧ RetL ((lBeside h w x).map V.int) H Q
theorem el_l_beside {K : PySem.W.Frag} {σ : L2.St} {H : Hp} {ta : TA} {E : XK} {g : Addr} {h w : Nat} {x : Int} (ha : EvA ta σ H [.ref g, .int x]) (hs : SqT K H g [.int (h : Int), .int (w : Int)]) (gk : GOk h w) : EvL (tCall (sp_l_beside K) [] E ta) σ H ((lBeside h w x).map V.int) := fun H1 e Q q =>
  ha H1 e _ fun H2 e2 => ⟨g, h, w, x, rfl, ex_t (e.trans e2) hs, gk, fun p H3 hp e3 h3 => q p H3 (fresh_back e2 hp) (e2.trans e3) h3⟩
def t_l_beside (K : PySem.W.Frag) : TS := (tSeq (tPar 2 3 (tCons (tOp oDiv (tVar 1) (tOp (rIxT K) (tVar 0) (tC (.int 1)))) (tCons (tOp oMod (tVar 1) (tOp (rIxT K) (tVar 0) (tC (.int 1)))) tNil)))
      (tSeq (tAsg (tLst (tCons (tTup (tCons (tOp oSub (tVar 2) (tC (.int 1))) (tCons (tVar 3) tNil))) (tCons (tTup (tCons (tVar 2) (tCons (tOp oSub (tVar 3) (tC (.int 1))) tNil))) (tCons (tTup (tCons (tVar 2) (tCons (tOp oAdd (tVar 3) (tC (.int 1))) tNil))) (tCons (tTup (tCons (tOp oAdd (tVar 2) (tC (.int 1))) (tCons (tVar 3) tNil))) tNil))))) (gName 4))
      (tRet (tLc (iList K (tVar 4)) (gTup K 2 (gCons (gName 5) (gCons (gName 6) gNil))) (tAnd (tTest (tChain oLe oLt (tC (.int 0)) (tVar 5) (tOp (rIxT K) (tVar 0) (tC (.int 0))))) (tTest (tChain oLe oLt (tC (.int 0)) (tVar 6) (tOp (rIxT K) (tVar 0) (tC (.int 1)))))) (tOp oAdd (tOp oMul (tVar 5) (tOp (rIxT K) (tVar 0) (tC (.int 1)))) (tVar 6)) [5, 6]))))
theorem pure_l_beside {K : PySem.W.Frag} {vs : List V} {H : Hp} {Q : VK} {E : XK} {D : Ends} (hD : D.rt = Q) {N : List Str} (hN : N.length = 7) (h : sp_l_beside K vs H Q E) : t_l_beside K D (start N vs) H := by
  obtain ⟨g, h, w, x, rfl, hs, gk, q⟩ := h
  subst hD
  rw [start_eq hN]
  change t_l_beside K D [some (.ref g), some (.int x), none, none, none, none, none] H
  have gb := gk
  obtain ⟨g1, g2, g3, g4⟩ := gb
  refine q_par (i := 2) (j := 3) (x := .int (x / (w : Int))) (y := .int (x % (w : Int))) (by walk_at "ev") (by walk_at "ev") fun H1 e1 => ?_
  generalize hr : x / (w : Int) = r
  generalize ha : x % (w : Int) = a
  refine q_asgPrs (K := K) (i := 4) (prs := lSpots r a) (eap_cons (x := r - 1) (y := a) (by walk_at "est") (eap_cons (x := r) (y := a - 1) (by walk_at "est") (eap_cons (x := r) (y := a + 1) (by walk_at "est") (eap_cons (x := r + 1) (y := a) (by walk_at "est") eap_nil)))) (by simp [lSpots]) fun p ps H2 hp e2 h2 hps => ?_
  have hs2 := ex_t (e1.trans e2) hs
  have pl : ps.length = 4 := Paired.length hps
  have l := el_lcPrs (K := K) (H := H2) (σ := [some (.ref g), some (.int x), some (.int r), some (.int a), some (.ref p), none, none]) (tl := tVar 4) (i := 5) (j := 6) (vs := [5, 6]) (t := tAnd (tTest (tChain oLe oLt (tC (.int 0)) (tVar 5) (tOp (rIxT K) (tVar 0) (tC (.int 0))))) (tTest (tChain oLe oLt (tC (.int 0)) (tVar 6) (tOp (rIxT K) (tVar 0) (tC (.int 1))))))
    (te := tOp oAdd (tOp oMul (tVar 5) (tOp (rIxT K) (tVar 0) (tC (.int 1)))) (tVar 6)) (fun pr => (decide (0 ≤ pr.1) && decide (pr.1 < (h : Int))) && (decide (0 ≤ pr.2) && decide (pr.2 < (w : Int)))) (fun pr => V.int (pr.1 * (w : Int) + pr.2)) (ev_var rfl) (sq_of h2) hps (by omega) (fun _ _ => rfl)
    (fun pr H3 e3 _ => by
      have hs3 := ex_t e3 hs2
      refine et_and (et_test (ev_chain (x := .int 0) (y := .int pr.1) (z := .int (h : Int)) ev_c (ev_var rfl) rv_I0 (fun _ => ?_) (fun _ => rv_I0))) (fun _ => et_test (ev_chain (x := .int 0) (y := .int pr.2) (z := .int (w : Int)) ev_c (ev_var rfl) rv_I0 (fun _ => ?_) (fun _ => rv_I0)))
      · walk_at "ev"
      · walk_at "ev")
    (fun pr H3 e3 _ _ => by
      have hs3 := ex_t e3 hs2
      refine ev_op (x := .int (pr.1 * (w : Int))) (y := .int pr.2) (ev_op (x := .int pr.1) (y := .int (w : Int)) (ev_var rfl) ?_ (rv_I (.inr ⟨by omega, by omega⟩))) (ev_var rfl) rv_I0
      walk_at "ev")
  refine s_retL l fun p3 H3 hp3 e3 h3 => q p3 H3 (fresh_back (e1.trans e2) hp3) ((e1.trans e2).trans e3) ?_
  rw [h3]
  unfold lBeside
  rw [hr, ha, List.map_map]
  rfl
theorem filter_len (l : List Int) (f : Int → Bool) : (l.filter f).length ≤ l.length := List.length_filter_le f l
theorem lBeside_len (h w : Nat) (x : Int) : (lBeside h w x).length ≤ 4 := by
  unfold lBeside
  rw [List.length_map]
  exact Nat.le_trans (List.length_filter_le _ _) (by simp [lSpots])
/-! ### _law_numbers -/
def sp_l_numbers (K : PySem.W.Frag) : Sp := fun vs H Q _ => ∃ g c h w cs, vs = [.ref g, .ref c] ∧ SqT K H g [.int ((h : Nat) : Int), .int ((w : Nat) : Int)] ∧ GOk h w ∧ SqL K H c ((cs : List Int).map V.int) ∧ RetP (fun H1 v H2 => NewLL H1 v H2 (ints2 (lNumbers h w cs))) H Q
theorem ep_l_numbers {K : PySem.W.Frag} {σ : L2.St} {H : Hp} {ta : TA} {E : XK} {g c : Addr} {h w : Nat} {cs : List Int} (ha : EvA ta σ H [.ref g, .ref c]) (hs : SqT K H g [.int (h : Int), .int (w : Int)]) (gk : GOk h w) (hc : SqL K H c (cs.map V.int)) :
    EvP (tCall (sp_l_numbers K) [] E ta) σ H (fun H1 v H2 => NewLL H1 v H2 (ints2 (lNumbers h w cs))) := fun H1 e Q q =>
  ha H1 e _ fun H2 e2 => ⟨g, c, h, w, cs, rfl, ex_t (e.trans e2) hs, gk, ex_l (e.trans e2) hc, fun v H3 e3 z => q v H3 (e2.trans e3) (z.back e2)⟩
def t_l_numbers (K : PySem.W.Frag) : TS := (tSeq (tAsg (tLst tNil) (gName 2))
      (tSeq (tFor (iRng1 (tCons (tOp (rIxT K) (tVar 0) (tC (.int 0))) tNil)) (gName 3) (tSeq (tAsg (tLst tNil) (gName 4))
      (tSeq (tFor (iRng1 (tCons (tOp (rIxT K) (tVar 0) (tC (.int 1))) tNil)) (gName 5) (tSeq (tAsg (tOp oAdd (tOp oMul (tVar 3) (tOp (rIxT K) (tVar 0) (tC (.int 1)))) (tVar 5)) (gName 6))
      (tSeq (tAsg (tLc (iList K (tCall (sp_l_beside K) [] E0 (tCons (tVar 0) (tCons (tVar 6) tNil)))) (gName 9) (tTest (tOp rEq (tOp (rIn K false) (tVar 9) (tVar 1)) (tOp (rIn K false) (tVar 6) (tVar 1)))) (tVar 9) [9]) (gName 7))
      (tSeq (tAsg (tIf (tTest (tOp (rIn K false) (tVar 6) (tVar 1))) (tOp oSub (tC (.int 4)) (tCB (rLenS K) (tCons (tCall (sp_l_beside K) [] E0 (tCons (tVar 0) (tCons (tVar 6) tNil))) tNil))) (tC (.int 0))) (gName 8))
      (tDrop (tBM K "list" rAppend (tVar 4) (tCons (tOp oAdd (tOp oSub (tCB (rLenS K) (tCons (tCall (sp_l_beside K) [] E0 (tCons (tVar 0) (tCons (tVar 6) tNil))) tNil)) (tCB (rLenS K) (tCons (tVar 7) tNil))) (tVar 8)) tNil)))))))
      (tDrop (tBM K "list" rAppend (tVar 2) (tCons (tVar 4) tNil))))))
      (tRet (tVar 2))))
def lRow (h w : Nat) (cs : List Int) (r n : Nat) : List Int := (List.range n).map fun (a : Nat) => lSides1 h w cs ((r : Int) * w + (a : Int))
theorem pure_l_numbers {K : PySem.W.Frag} {vs : List V} {H : Hp} {Q : VK} {E : XK} {D : Ends} (hD : D.rt = Q) {N : List Str} (hN : N.length = 10) (h : sp_l_numbers K vs H Q E) : t_l_numbers K D (start N vs) H := by
  obtain ⟨g, c, h, w, cs, rfl, hs, gk, hc, q⟩ := h
  subst hD
  rw [start_eq hN]
  change t_l_numbers K D [some (.ref g), some (.ref c), none, none, none, none, none, none, none, none] H
  have gb := gk
  obtain ⟨g1, g2, g3, g4⟩ := gb
  refine q_asgL (i := 2) (xs := []) (el_lst ea_nil (by simp)) fun p H1 hp e1 h1 => ?_
  have hs1 := ex_t e1 hs
  have hth : ((h : Nat) : Int).toNat = h := Int.toNat_natCast h
  have htw : ((w : Nat) : Int).toNat = w := Int.toNat_natCast w
  refine q_forR1 (j := 3) (n := (h : Int)) (ea_cons (by walk_at "ev") ea_nil) ⟨by omega, by omega⟩ (fun i σ' H' => ∃ y3 y4 y5 y6 y7 y8, σ' = [some (.ref g), some (.ref c), some (.ref p), y3, y4, y5, y6, y7, y8, none] ∧ Ex H H' ∧ ∃ ps : List Addr, H' p = some (.lst (ps.map V.ref)) ∧ ps.length = i ∧ Paired (fun (q : Addr) xs => (H q = none ∧ q ≠ p) ∧ H' q = some (.lst xs)) ps ((List.range i).map fun r => (lRow h w cs r w).map V.int))
    (fun H2 e2 => ⟨none, none, none, none, none, none, rfl, e1.trans e2, [], e2 _ _ h1, rfl, .nil⟩) (fun i σ' H' hi hP => ?_) (fun σ' H' hP => ?_)
  · obtain ⟨y3, y4, y5, y6, y7, y8, rfl, e2, ps, h2, pl, hps⟩ := hP
    refine q_asgL (i := 4) (xs := []) (el_lst ea_nil (by simp)) fun l H3 hl e3 h3 => ?_
    have hs3 := ex_t (e2.trans e3) hs
    refine q_forR1 (j := 5) (n := (w : Int)) (ea_cons (by walk_at "ev") ea_nil) ⟨by omega, by omega⟩ (fun j σ' H'' => ∃ y5 y6 y7 y8, σ' = [some (.ref g), some (.ref c), some (.ref p), some (.int (i : Int)), some (.ref l), y5, y6, y7, y8, none] ∧ Ex H' H'' ∧ H'' l = some (.lst ((lRow h w cs i j).map V.int)))
      (fun H4 e4 => ⟨_, _, _, _, rfl, e3.trans e4, e4 _ _ h3⟩) (fun j σ' H4 hj hP => ?_) (fun σ' H4 hP => ?_)
    · obtain ⟨y5, y6, y7, y8, rfl, e4, h4⟩ := hP
      have hs4 := ex_t (e2.trans e4) hs
      have hc4 := ex_l (e2.trans e4) hc
      refine q_asg (i := 6) (v := .int ((i : Int) * w + (j : Int))) (by walk_at "ev") fun H5 e5 => ?_
      have hs5 := ex_t e5 hs4
      have hc5 := ex_l e5 hc4
      generalize hx : ((i : Int) * w + (j : Int)) = x
      have b := el_l_beside (E := E0) (K := K) (H := H5) (σ := [some (.ref g), some (.ref c), some (.ref p), some (.int (i : Int)), some (.ref l), some (.int (j : Int)), some (.int x), y7, y8, none]) (ta := tCons (tVar 0) (tCons (tVar 6) tNil)) (x := x) (ea_cons (ev_var rfl) (ea_cons (ev_var rfl) ea_nil)) hs5 gk
      have lb := lBeside_len h w x
      have sm := el_lcI (K := K) (t := tTest (tOp rEq (tOp (rIn K false) (tVar 9) (tVar 1)) (tOp (rIn K false) (tVar 6) (tVar 1)))) (te := tVar 9) (j := 9) (vs := [9]) (fun o => decide (o ∈ cs) == decide (x ∈ cs)) V.int (es_new b) (by omega) (fun x => rfl)
        (fun n H6 e6 hn => by
          have hc6 := ex_l e6 hc5
          refine et_is (et_test (ev_op (x := .bl (decide (n ∈ cs))) (y := .bl (decide (x ∈ cs))) (ev_isIn (ev_var rfl) (es_of (ev_var rfl) hc6)) (ev_isIn (ev_var rfl) (es_of (ev_var rfl) hc6)) (rv_eq rfl))) ?_
          exact dec_bl) (fun n H6 e6 hn _ => ev_var rfl)
      refine q_asgL (i := 7) sm fun s7 H6 hs7 e6 h6 => ?_
      have hs6 := ex_t e6 hs5
      have hc6 := ex_l e6 hc5
      have b6 := el_l_beside (E := E0) (K := K) (H := H6) (σ := [some (.ref g), some (.ref c), some (.ref p), some (.int (i : Int)), some (.ref l), some (.int (j : Int)), some (.int x), some (.ref s7), y8, none]) (ta := tCons (tVar 0) (tCons (tVar 6) tNil)) (x := x) (ea_cons (ev_var rfl) (ea_cons (ev_var rfl) ea_nil)) hs6 gk
      have lm : ((lBeside h w x).map V.int).length = (lBeside h w x).length := List.length_map ..
      refine q_asg (i := 8) (v := .int (if x ∈ cs then 4 - ((lBeside h w x).length : Int) else 0)) (ev_if (b := decide (x ∈ cs)) (et_test (ev_isIn (ev_var rfl) (es_of (ev_var rfl) hc6))) (fun hb => ?_) (fun hb => ?_)) fun H7 e7 => ?_
      · rw [if_pos (of_decide_eq_true hb)]
        have := ev_op (r := oSub) (ev_c (v := .int 4)) (ev_lenN (K := K) b6) rv_I0
        rw [lm] at this
        exact this
      · rw [if_neg (of_decide_eq_false hb)]
        exact ev_c
      have hs7' := ex_t e7 hs6
      have b7 := el_l_beside (E := E0) (K := K) (H := H7) (σ := [some (.ref g), some (.ref c), some (.ref p), some (.int (i : Int)), some (.ref l), some (.int (j : Int)), some (.int x), some (.ref s7), some (.int (if x ∈ cs then 4 - ((lBeside h w x).length : Int) else 0)), none]) (ta := tCons (tVar 0) (tCons (tVar 6) tNil)) (x := x) (ea_cons (ev_var rfl) (ea_cons (ev_var rfl) ea_nil)) hs7' gk
      have val := ev_op (r := oAdd) (ev_op (r := oSub) (ev_lenN (K := K) b7) (ev_lenS (K := K) (ta := tVar 7) (es_of (ev_var rfl) (sq_of (e7 _ _ h6)))) rv_I0) (ev_var (i := 8) rfl) rv_I0
      rw [lm, List.length_map] at val
      have h7 := e7 _ _ (e6 _ _ (e5 _ _ h4))
      have ln : ((lRow h w cs i j).map V.int).length < 100000 := by
        unfold lRow
        rw [List.length_map, List.length_map, List.length_range]
        omega
      refine s_app (K := K) (l := l) h7 (ev_var rfl) val ln fun H8 e8 => ⟨_, _, _, _, rfl, Ex.mut ((((e4.trans e5).trans e6).trans e7).trans e8) hl, ?_⟩
      rw [upd_same]
      unfold lRow
      rw [List.range_succ, List.map_append, List.map_append, List.map_singleton, List.map_singleton]
      rw [hx]
      rfl
    · obtain ⟨y5, y6, y7, y8, rfl, e4, h4⟩ := hP
      rw [htw] at h4
      have ln : (ps.map V.ref).length < 100000 := by rw [List.length_map]; omega
      refine s_app (K := K) (l := p) (e4 _ _ h2) (ev_var rfl) (v := .ref l) (ev_var rfl) ln fun H5 e5 => ⟨_, _, _, _, _, _, rfl, Ex.mut ((e2.trans e4).trans e5) hp, ps ++ [l], ?_, ?_, ?_⟩
      · rw [upd_same, List.map_append]
        rfl
      · rw [List.length_append, pl]
        rfl
      · have lp : l ≠ p := (ne_of_none h2 hl).symm
        rw [List.range_succ, List.map_append]
        refine paired_snoc (Paired.mapP hps fun q xs z => ⟨z.1, ?_⟩) ⟨⟨fresh_back e2 hl, lp⟩, ?_⟩
        · rw [upd_ne z.1.2]
          exact e5 _ _ (e4 _ _ z.2)
        · rw [upd_ne lp]
          exact e5 _ _ h4
  · obtain ⟨y3, y4, y5, y6, y7, y8, rfl, e2, ps, h2, pl, hps⟩ := hP
    rw [hth] at hps
    refine s_ret (ev_var rfl) fun H3 e3 => q _ H3 (e2.trans e3) ⟨p, ps, rfl, hp, e3 _ _ h2, ?_⟩
    have e : ints2 (lNumbers h w cs) = (List.range h).map fun r => (lRow h w cs r w).map V.int := by
      unfold ints2 lNumbers lRow
      rw [List.map_map]
      rfl
    rw [e]
    exact Paired.mapP hps fun q xs z => ⟨z.1.1, e3 _ _ z.2⟩

/-! ### the two countings agree -/
theorem four_filter {α β : Type} (f : α → Bool) (g : α → β) (a b c d : α) : ([a, b, c, d].filter f).map g = (if f a = true then [g a] else []) ++ (if f b = true then [g b] else []) ++ (if f c = true then [g c] else []) ++ (if f d = true then [g d] else []) := by
  simp only [List.filter_cons, List.filter_nil]
  cases f a <;> cases f b <;> cases f c <;> cases f d <;> rfl
theorem lBeside_eq {h w : Nat} (gk : GOk h w) {x : Int} (h0 : 0 ≤ x) (h1 : x < (h : Int) * w) : lBeside h w x = beside h w x := by
  obtain ⟨g1, g2, g3, g4⟩ := gk
  unfold lBeside lSpots beside besideA besideB besideC besideD
  rw [four_filter]
  have ew : w = 1 ∨ w = 2 ∨ w = 3 ∨ w = 4 ∨ w = 5 ∨ w = 6 := by omega
  have key : ∀ (b : Bool) (p : Prop) [Decidable p] (u v : Int), (b = true ↔ p) → (p → u = v) → (if b = true then [u] else []) = if p then [v] else [] := by
    intro b p _ u v hb hu
    by_cases hp : p
    · rw [if_pos (hb.mpr hp), if_pos hp, hu hp]
    · rw [if_neg (fun z => hp (hb.mp z)), if_neg hp]
  congr 1
  · congr 1
    · congr 1
      · refine key _ _ _ _ ?_ ?_
        · simp only [Bool.and_eq_true, decide_eq_true_eq]
          rcases ew with rfl | rfl | rfl | rfl | rfl | rfl <;> omega
        · rcases ew with rfl | rfl | rfl | rfl | rfl | rfl <;> dsimp only <;> omega
      · refine key _ _ _ _ ?_ ?_
        · simp only [Bool.and_eq_true, decide_eq_true_eq]
          rcases ew with rfl | rfl | rfl | rfl | rfl | rfl <;> omega
        · rcases ew with rfl | rfl | rfl | rfl | rfl | rfl <;> dsimp only <;> omega
    · refine key _ _ _ _ ?_ ?_
      · simp only [Bool.and_eq_true, decide_eq_true_eq]
        rcases ew with rfl | rfl | rfl | rfl | rfl | rfl <;> omega
      · rcases ew with rfl | rfl | rfl | rfl | rfl | rfl <;> dsimp only <;> omega
  · refine key _ _ _ _ ?_ ?_
    · simp only [Bool.and_eq_true, decide_eq_true_eq]
      rcases ew with rfl | rfl | rfl | rfl | rfl | rfl <;> omega
    · rcases ew with rfl | rfl | rfl | rfl | rfl | rfl <;> dsimp only <;> omega
theorem filter_split (l : List Int) (f : Int → Bool) : (l.filter f).length + (l.filter fun o => !f o).length = l.length := by
  induction l with
  | nil => rfl
  | cons a r ih =>
    simp only [List.filter_cons]
    cases f a <;> simp <;> omega
theorem lSides_eq {h w : Nat} (gk : GOk h w) (cs : List Int) {x : Int} (h0 : 0 ≤ x) (h1 : x < (h : Int) * w) : lSides1 h w cs x = sidesOf h w cs x := by
  unfold lSides1 sidesOf near
  rw [lBeside_eq gk h0 h1]
  have sp := filter_split (beside h w x) fun o => decide (o ∈ cs)
  by_cases hx : x ∈ cs
  · rw [if_pos hx, if_pos hx, decide_eq_true hx]
    have e : ((beside h w x).filter fun o => decide (o ∈ cs) == true) = (beside h w x).filter fun o => decide (o ∈ cs) := by
      congr 1
      funext o
      exact beq_true _
    rw [e]
    omega
  · rw [if_neg hx, if_neg hx, decide_eq_false hx]
    have e : ((beside h w x).filter fun o => decide (o ∈ cs) == false) = (beside h w x).filter fun o => !decide (o ∈ cs) := by
      congr 1
      funext o
      exact beq_false _
    rw [e]
    omega
theorem cell_in {h w r a : Nat} (hr : r < h) (ha : a < w) : 0 ≤ (r : Int) * w + (a : Int) ∧ (r : Int) * w + (a : Int) < (h : Int) * w := by
  have : r * w + a < h * w := by
    have : (r + 1) * w ≤ h * w := Nat.mul_le_mul_right w hr
    rw [Nat.succ_mul] at this
    omega
  have e1 : (r : Int) * w = ((r * w : Nat) : Int) := (Int.natCast_mul r w).symm
  have e2 : (h : Int) * w = ((h * w : Nat) : Int) := (Int.natCast_mul h w).symm
  omega
theorem lNumbers_eq {h w : Nat} (gk : GOk h w) (cs : List Int) : lNumbers h w cs = numbersOf h w cs := by
  unfold lNumbers numbersOf
  refine List.map_congr_left fun r hr => List.map_congr_left fun a ha => ?_
  have hc := cell_in (h := h) (w := w) (List.mem_range.mp hr) (List.mem_range.mp ha)
  exact lSides_eq gk cs hc.1 hc.2

/-! ### _law_spread -/
open Sd.J
/-- a new list: just the cells come by -/
def NewSpr (h w : Nat) (x : Int) (cs : List Int) (H1 : Hp) (v : V) (H2 : Hp) : Prop := ∃ (p : Addr) (fs : List Int), v = .ref p ∧ H1 p = none ∧ H2 p = some (.lst (fs.map V.int)) ∧ (∀ o, o ∈ fs ↔ o ∈ spread h w x cs) ∧ fs.length ≤ 100
def sp_l_spread (K : PySem.W.Frag) : Sp := fun vs H Q _ => ∃ g c x h w cs, vs = [.ref g, .int x, .ref c] ∧ SqT K H g [.int ((h : Nat) : Int), .int ((w : Nat) : Int)] ∧ GOk h w ∧ SqL K H c ((cs : List Int).map V.int) ∧ InGrid h w cs ∧ cs.length ≤ 60 ∧ (0 ≤ x ∧ x < (h : Int) * w) ∧ RetP (NewSpr h w x cs) H Q
theorem ep_l_spread {K : PySem.W.Frag} {σ : L2.St} {H : Hp} {ta tb tc : TE} {E : XK} {h w : Nat} {x : Int} {cs : List Int} (ha : EvST K ta σ H [.int (h : Int), .int (w : Int)]) (gk : GOk h w) (hx : Ev tb σ H (.int x)) (hc : EvS K tc σ H (cs.map V.int)) (hi : InGrid h w cs) (hl : cs.length ≤ 60) (hb : 0 ≤ x ∧ x < (h : Int) * w) :
    EvP (tCall (sp_l_spread K) [] E (tCons ta (tCons tb (tCons tc tNil)))) σ H (NewSpr h w x cs) := fun H1 e Q q =>
  ha H1 e _ fun g H2 e2 hg => hx H2 (e.trans e2) _ fun H3 e3 => hc H3 ((e.trans e2).trans e3) _ fun c H4 e4 hc4 => ⟨g, c, x, h, w, cs, rfl, ex_t (e3.trans e4) hg, gk, hc4, hi, hl, hb, fun v H5 e5 z => q v H5 (((e2.trans e3).trans e4).trans e5) (by
    obtain ⟨p, fs, h1, h2, h3⟩ := z
    exact ⟨p, fs, h1, fresh_back ((e2.trans e3).trans e4) h2, h3⟩)⟩
def t_l_spread (K : PySem.W.Frag) : TS := (tSeq (tPar 3 4 (tCons (tLst (tCons (tVar 1) tNil)) (tCons (tLst (tCons (tVar 1) tNil)) tNil)))
      (tSeq (tWhile (tTest (tOp (rNeD K) (tVar 4) (tLst tNil))) (tSeq (tAsg (tLst tNil) (gName 5))
      (tSeq (tFor (iList K (tVar 4)) (gName 6) (tFor (iList K (tCall (sp_l_beside K) [] E0 (tCons (tVar 0) (tCons (tVar 6) tNil)))) (gName 7) (tIfS (tAnd (tTest (tOp (rIn K false) (tVar 7) (tVar 2))) (tTest (tOp (rIn K true) (tVar 7) (tVar 3)))) (tSeq (tDrop (tBM K "list" rAppend (tVar 3) (tCons (tVar 7) tNil)))
      (tDrop (tBM K "list" rAppend (tVar 5) (tCons (tVar 7) tNil)))) tNext)))
      (tAsg (tVar 5) (gName 4)))))
      (tRet (tVar 3))))
/-- found, of which line is yet to be looked at -/
structure SprI (h w : Nat) (x : Int) (cs fs ls : List Int) : Prop where
  nd : fs.Nodup
  sub : ∀ o ∈ fs, o ∈ x :: cs
  xm : x ∈ fs
  conn : ∀ o ∈ fs, Conn h w cs x o
  lsub : ∀ o ∈ ls, o ∈ fs
  cl : ∀ o ∈ fs, o ∉ ls → ∀ z ∈ beside h w o, z ∈ cs → z ∈ fs
/-- on the way: ls looked at up to i, the cell's neighbours bs -/
structure SprJ (h w : Nat) (x : Int) (cs fs ls : List Int) (i : Nat) (bs : List Int) (ms : List Int) : Prop where
  nd : (fs ++ ms).Nodup
  sub : ∀ o ∈ fs ++ ms, o ∈ x :: cs
  conn : ∀ o ∈ fs ++ ms, Conn h w cs x o
  cl : ∀ o ∈ ls.take i, ∀ z ∈ beside h w o, z ∈ cs → z ∈ fs ++ ms
  bcl : ∀ z ∈ bs, z ∈ cs → z ∈ fs ++ ms
theorem SprI.done {h w : Nat} (hw : 0 < w) {x : Int} {cs fs : List Int} (I : SprI h w x cs fs []) : ∀ o, o ∈ fs ↔ o ∈ spread h w x cs := fun o => by
  rw [mem_spread hw]
  refine ⟨I.conn o, fun hc => ?_⟩
  induction hc with
  | refl => exact I.xm
  | step hy hb ho ih => exact I.cl _ ih (by simp) _ hb ho
theorem SprI.len {h w : Nat} {x : Int} {cs fs ls : List Int} (I : SprI h w x cs fs ls) : fs.length ≤ cs.length + 1 := nodup_sub (m := x :: cs) I.nd I.sub
theorem SprI.one (h w : Nat) (x : Int) (cs : List Int) : SprI h w x cs [x] [x] := by
  refine ⟨by simp, by simp, by simp, fun o ho => ?_, fun o ho => ho, fun o ho hn => absurd ho hn⟩
  have : o = x := by simpa using ho
  rw [this]
  exact .refl x
theorem SprI.start {h w : Nat} {x : Int} {cs fs ls : List Int} (I : SprI h w x cs fs ls) : SprJ h w x cs fs ls 0 [] [] := by
  refine ⟨?_, ?_, ?_, fun o ho => (by simp at ho), fun z hz => nomatch hz⟩ <;> rw [List.append_nil]
  · exact I.nd
  · exact I.sub
  · exact I.conn
theorem SprJ.next {h w : Nat} {x : Int} {cs fs ls : List Int} {i : Nat} {ms : List Int} {y : Int} (hy : ls[i]? = some y) (J : SprJ h w x cs fs ls i (beside h w y) ms) : SprJ h w x cs fs ls (i + 1) [] ms :=
  ⟨J.nd, J.sub, J.conn, fun o ho => by
    rw [take_snoc hy] at ho
    rcases List.mem_append.mp ho with ho | ho
    · exact J.cl o ho
    · have : o = y := by simpa using ho
      rw [this]
      exact J.bcl, fun z hz => nomatch hz⟩
theorem SprJ.fin {h w : Nat} {x : Int} {cs fs ls ms : List Int} (I : SprI h w x cs fs ls) (J : SprJ h w x cs fs ls ls.length [] ms) : SprI h w x cs (fs ++ ms) ms := by
  refine ⟨J.nd, J.sub, List.mem_append_left _ I.xm, J.conn, fun o ho => List.mem_append_right _ ho, fun o ho hn z hz hc => ?_⟩
  have hf : o ∈ fs := (List.mem_append.mp ho).elim id fun h => absurd h hn
  by_cases hl : o ∈ ls
  · exact J.cl o (by rw [List.take_length]; exact hl) z hz hc
  · exact List.mem_append_left _ (I.cl o hf hl z hz hc)
theorem SprJ.step {h w : Nat} {x : Int} {cs fs ls : List Int} {i : Nat} {bs ms : List Int} {y z : Int} (hy : y ∈ fs) (hz : z ∈ beside h w y) (I : SprI h w x cs fs ls) (J : SprJ h w x cs fs ls i bs ms) : SprJ h w x cs fs ls i (bs ++ [z]) (if z ∈ cs ∧ z ∉ fs ++ ms then ms ++ [z] else ms) := by
  by_cases c : z ∈ cs ∧ z ∉ fs ++ ms
  · rw [if_pos c]
    refine ⟨?_, fun o ho => ?_, fun o ho => ?_, fun o ho u hu hc => ?_, fun u hu hc => ?_⟩
    · rw [← List.append_assoc]
      exact List.nodup_append.mpr ⟨J.nd, by simp, fun a ha b hb e => by
        have : b = z := by simpa using hb
        exact c.2 (by rw [← this, ← e]; exact ha)⟩
    · rw [← List.append_assoc] at ho
      rcases List.mem_append.mp ho with ho | ho
      · exact J.sub o ho
      · have : o = z := by simpa using ho
        rw [this]
        exact List.mem_cons_of_mem _ c.1
    · rw [← List.append_assoc] at ho
      rcases List.mem_append.mp ho with ho | ho
      · exact J.conn o ho
      · have : o = z := by simpa using ho
        rw [this]
        exact .step (I.conn y hy) hz c.1
    · rw [← List.append_assoc]
      exact List.mem_append_left _ (J.cl o ho u hu hc)
    · rw [← List.append_assoc]
      rcases List.mem_append.mp hu with hu | hu
      · exact List.mem_append_left _ (J.bcl u hu hc)
      · exact List.mem_append_right _ hu
  · rw [if_neg c]
    refine ⟨J.nd, J.sub, J.conn, J.cl, fun u hu hc => ?_⟩
    rcases List.mem_append.mp hu with hu | hu
    · exact J.bcl u hu hc
    · have : u = z := by simpa using hu
      rw [this] at hc ⊢
      exact Classical.byContradiction fun n => c ⟨hc, n⟩
theorem q_parLL {σ : L2.St} {H : Hp} {ta tb : TE} {tz : TS} {D : Ends} {xs ys : List V} {i j : Nat} (h : EvL ta σ H xs) (h' : EvL tb σ H ys) (k : ∀ p q H1, H p = none → H q = none → q ≠ p → Ex H H1 → H1 p = some (.lst xs) → H1 q = some (.lst ys) → tz D ((σ.set i (some (.ref p))).set j (some (.ref q))) H1) : tSeq (tPar i j (tCons ta (tCons tb tNil))) tz D σ H :=
  h H (Ex.refl H) _ fun p H1 hp e1 h1 => h' H1 e1 _ fun q H2 hq e2 h2 => ⟨_, _, rfl, k p q H2 hp (fresh_back e1 hq) (fun z => by rw [z, h1] at hq; cases hq) (e1.trans e2) (e2 _ _ h1) h2⟩
theorem pure_l_spread {K : PySem.W.Frag} {vs : List V} {H : Hp} {Q : VK} {E : XK} {D : Ends} (hD : D.rt = Q) {N : List Str} (hN : N.length = 8) (h : sp_l_spread K vs H Q E) : t_l_spread K D (start N vs) H := by
  obtain ⟨g, c, x, h, w, cs, rfl, hs, gk, hc, hi, hl, hb, q⟩ := h
  subst hD
  rw [start_eq hN]
  change t_l_spread K D [some (.ref g), some (.int x), some (.ref c), none, none, none, none, none] H
  refine q_parLL (i := 3) (j := 4) (xs := [V.int x]) (ys := [V.int x]) (el_lst (ea_cons (ev_var rfl) ea_nil) (by simp)) (el_lst (ea_cons (ev_var rfl) ea_nil) (by simp)) fun p3 p4 H2 hp3 hp4 p34 e2 h1 h2 => ?_
  refine q_while (fun m σ' H' => ∃ p4 y5 y6 y7, ∃ fs ls : List Int, σ' = [some (.ref g), some (.int x), some (.ref c), some (.ref p3), some (.ref p4), y5, y6, y7] ∧ Ex H H' ∧ H' p3 = some (.lst (fs.map V.int)) ∧ H' p4 = some (.lst (ls.map V.int)) ∧ p4 ≠ p3 ∧ SprI h w x cs fs ls ∧ m = 2 * (cs.length + 1 - fs.length) + (if ls = [] then 0 else 1)) (2 * (cs.length + 1 - 1) + 1)
    ⟨p4, none, none, none, [x], [x], rfl, e2, h1, h2, p34, SprI.one h w x cs, rfl⟩ (fun m σ' H3 hW => ?_)
  obtain ⟨p4, y5, y6, y7, fs, ls, rfl, e3, h3, h4, ne, I, hm⟩ := hW
  have Il := I.len
  refine ⟨!decide (ls = []), et_is (et_test (ev_neD (ed_ints (es_of (K := K) (ev_var rfl) (sq_of h4))) ed_nil (shaped_ints ls) shaped_nil)) (by rw [eqv_ints_nil]), fun hbt H4 e4 => ?_, fun hbf H4 e4 => ?_⟩
  · have lne : ls ≠ [] := by simpa using hbt
    rw [if_neg lne] at hm
    refine ⟨fun σ2 H2 => ∃ p4 y5 y6 y7, ∃ fs' ls' : List Int, σ2 = [some (.ref g), some (.int x), some (.ref c), some (.ref p3), some (.ref p4), y5, y6, y7] ∧ Ex H H2 ∧ H2 p3 = some (.lst (fs'.map V.int)) ∧ H2 p4 = some (.lst (ls'.map V.int)) ∧ p4 ≠ p3 ∧ SprI h w x cs fs' ls' ∧ 2 * (cs.length + 1 - fs'.length) + (if ls' = [] then 0 else 1) < m, fun σ2 H2 z => ?_, ?_⟩
    · obtain ⟨p4, y5, y6, y7, fs', ls', z1, z2, z3, z4, z5, z6, z7⟩ := z
      exact ⟨_, z7, p4, y5, y6, y7, fs', ls', z1, z2, z3, z4, z5, z6, rfl⟩
    refine q_asgL (i := 5) (xs := []) (el_lst ea_nil (by simp)) fun p5 H5 hp5 e5 h5 => ?_
    have h3' := e5 _ _ (e4 _ _ h3)
    have h4' := e5 _ _ (e4 _ _ h4)
    have n53 : p5 ≠ p3 := fun z => by rw [z, e4 _ _ h3] at hp5; cases hp5
    have n54 : p5 ≠ p4 := fun z => by rw [z, e4 _ _ h4] at hp5; cases hp5
    have f5 : H p5 = none := fresh_back (e3.trans e4) hp5
    have eH5 : Ex H H5 := (e3.trans e4).trans e5
    have gin : ∀ o ∈ fs, 0 ≤ o ∧ o < (h : Int) * w := fun o ho => by
      rcases List.mem_cons.mp (I.sub o ho) with rfl | hz
      · exact hb
      · exact hi o hz
    refine q_forLn (K := K) (j := 6) (xs := ls.map V.int) (a := p4) (ev_var rfl) (sq_of h4') (fun i σ' H' => ∃ y6 y7, ∃ ms : List Int, σ' = [some (.ref g), some (.int x), some (.ref c), some (.ref p3), some (.ref p4), some (.ref p5), y6, y7] ∧ Ex H H' ∧ H' p3 = some (.lst ((fs ++ ms).map V.int)) ∧ H' p5 = some (.lst (ms.map V.int)) ∧ H' p4 = some (.lst (ls.map V.int)) ∧ SprJ h w x cs fs ls i [] ms)
      (fun H6 e6 => ⟨_, _, [], rfl, eH5.trans e6, by rw [List.append_nil]; exact e6 _ _ h3', e6 _ _ h5, e6 _ _ h4', I.start⟩) (fun i σ' H' _ hP => by
        obtain ⟨_, _, _, _, _, _, _, z, _⟩ := hP
        exact sq_of z) (fun i xv σ' H6 hiv hP => ?_) (fun σ' H6 hP => ?_)
    · obtain ⟨y6, y7, ms, rfl, e6, k3, k5, k4, J⟩ := hP
      rw [List.getElem?_map] at hiv
      obtain ⟨y, hy, rfl⟩ := Option.map_eq_some_iff.mp hiv
      have yf : y ∈ fs := I.lsub y (List.mem_of_getElem? hy)
      have yg := gin y yf
      have lb := el_l_beside (K := K) (E := E0) (σ := [some (.ref g), some (.int x), some (.ref c), some (.ref p3), some (.ref p4), some (.ref p5), some (.int y), y7]) (H := H6) (ta := tCons (tVar 0) (tCons (tVar 6) tNil)) (x := y) (ea_cons (ev_var rfl) (ea_cons (ev_var rfl) ea_nil)) (ex_t e6 hs) gk
      rw [lBeside_eq gk yg.1 yg.2] at lb
      refine s_forNL (K := K) (g := gName 7) lb (fun pb k σ' H' => ∃ y7, ∃ ms : List Int, σ' = [some (.ref g), some (.int x), some (.ref c), some (.ref p3), some (.ref p4), some (.ref p5), some (.int y), y7] ∧ Ex H H' ∧ H' p3 = some (.lst ((fs ++ ms).map V.int)) ∧ H' p5 = some (.lst (ms.map V.int)) ∧ H' p4 = some (.lst (ls.map V.int)) ∧ H' pb = some (.lst ((beside h w y).map V.int)) ∧ pb ≠ p3 ∧ pb ≠ p5 ∧ SprJ h w x cs fs ls i ((beside h w y).take k) ms)
        (fun pb H7 hpb e7 h7 => ⟨_, ms, rfl, e6.trans e7, e7 _ _ k3, e7 _ _ k5, e7 _ _ k4, h7, (fun z => by rw [z, k3] at hpb; cases hpb), (fun z => by rw [z, k5] at hpb; cases hpb), J⟩) (fun pb k σ' H' _ hP => by
          obtain ⟨_, _, _, _, _, _, _, z, _⟩ := hP
          exact sq_of z) (fun pb k zv σ' H7 hzv hP => ?_) (fun pb σ' H7 hP => ?_)
      · obtain ⟨y7, ms, rfl, e7, k3, k5, k4, kb, nb3, nb5, J⟩ := hP
        rw [List.getElem?_map] at hzv
        obtain ⟨z, hz, rfl⟩ := Option.map_eq_some_iff.mp hzv
        have zb : z ∈ beside h w y := List.mem_of_getElem? hz
        have Js := J.step yf zb I
        rw [← take_snoc hz] at Js
        have ml : (fs ++ ms).length ≤ cs.length + 1 := nodup_sub (m := x :: cs) J.nd J.sub
        have tst : EvT (tAnd (tTest (tOp (rIn K false) (tVar 7) (tVar 2))) (tTest (tOp (rIn K true) (tVar 7) (tVar 3)))) [some (.ref g), some (.int x), some (.ref c), some (.ref p3), some (.ref p4), some (.ref p5), some (.int y), some (.int z)] H7 (decide (z ∈ cs ∧ z ∉ fs ++ ms)) :=
          et_is (et_and (et_test (ev_isIn (K := K) (ev_var rfl) (es_of (ev_var rfl) (ex_l e7 hc)))) (fun _ => et_test (ev_notIn (K := K) (ev_var rfl) (es_of (ev_var rfl) (sq_of k3))))) (by rw [Bool.eq_iff_iff]; simp)
        refine s_when tst (fun ht H8 e8 => ?_) (fun ht H8 e8 => ?_)
        · rw [if_pos (of_decide_eq_true ht)] at Js
          refine q_app (K := K) (l := p3) (v := .int z) (e8 _ _ k3) (ev_var rfl) (ev_var rfl) (by rw [List.length_map]; omega) fun H9 e9 => ?_
          have k5' : upd H9 p3 (.lst ((fs ++ ms).map V.int ++ [V.int z])) p5 = some (.lst (ms.map V.int)) := by rw [upd_ne n53]; exact e9 _ _ (e8 _ _ k5)
          have msl : ms.length ≤ (fs ++ ms).length := by rw [List.length_append]; omega
          refine s_app (K := K) (l := p5) (v := .int z) k5' (ev_var rfl) (ev_var rfl) (by rw [List.length_map]; omega) fun H10 e10 => ⟨_, ms ++ [z], rfl, ?_, ?_, ?_, ?_, ?_, nb3, nb5, Js⟩
          · exact Ex.mut ((Ex.mut ((e7.trans e8).trans e9) hp3).trans e10) f5
          · rw [upd_ne n53.symm, e10 _ _ upd_same, ← List.append_assoc, List.map_append (l₂ := [z])]
            rfl
          · rw [upd_same, List.map_append]
            rfl
          · rw [upd_ne n54.symm]
            exact e10 _ _ (by rw [upd_ne ne]; exact e9 _ _ (e8 _ _ k4))
          · rw [upd_ne nb5]
            exact e10 _ _ (by rw [upd_ne nb3]; exact e9 _ _ (e8 _ _ kb))
        · rw [if_neg (of_decide_eq_false ht)] at Js
          exact ⟨_, ms, rfl, e7.trans e8, e8 _ _ k3, e8 _ _ k5, e8 _ _ k4, e8 _ _ kb, nb3, nb5, Js⟩
      · obtain ⟨y7, ms, rfl, e7, k3, k5, k4, kb, nb3, nb5, J⟩ := hP
        rw [List.length_map, List.take_length] at J
        exact ⟨_, _, ms, rfl, e7, k3, k5, k4, J.next hy⟩
    · obtain ⟨y6, y7, ms, rfl, e6, k3, k5, k4, J⟩ := hP
      rw [List.length_map] at J
      have I' := J.fin I
      refine s_asg (i := 4) (v := .ref p5) (ev_var rfl) fun H7 e7 => ⟨p5, _, _, _, fs ++ ms, ms, rfl, e6.trans e7, e7 _ _ k3, e7 _ _ k5, n53, I', ?_⟩
      have I'l := I'.len
      rw [hm]
      rw [List.length_append] at I'l ⊢
      by_cases hms : ms = []
      · rw [if_pos hms, hms]
        simp
      · rw [if_neg hms]
        have := List.length_pos_iff.mpr hms
        omega
  · have : ls = [] := by simpa using hbf
    subst this
    refine s_ret (ev_var rfl) fun H5 e5 => q _ H5 ((e3.trans e4).trans e5) ⟨p3, fs, rfl, hp3, e5 _ _ (e4 _ _ h3), I.done gk.2.2.1, by omega⟩

/-! ### answers as they stand, and their own word -/
def TldAt (K : PySem.W.Frag) (C : Ad) (H : Hp) (v : V) : Tld → Prop
  | .never => ∃ p dx, v = .ref p ∧ H p = some (.ins C.cNever dx [])
  | .one a => ∃ p dx l, v = .ref p ∧ H p = some (.ins C.cOne dx (fldsC (.ref l))) ∧ SqL K H l (a.map V.int)
  | .two a b => ∃ p dx l m, v = .ref p ∧ H p = some (.ins C.cTwo dx (flds2 (.ref l) (.ref m))) ∧ SqL K H l (a.map V.int) ∧ SqL K H m (b.map V.int)
theorem TldAt.mono {K : PySem.W.Frag} {C : Ad} {H H' : Hp} {v : V} {t : Tld} (e : Ex H H') (h : TldAt K C H v t) : TldAt K C H' v t := by
  cases t with
  | never =>
    obtain ⟨p, dx, rfl, h⟩ := h
    exact ⟨p, dx, rfl, e _ _ h⟩
  | one a =>
    obtain ⟨p, dx, l, rfl, h, h1⟩ := h
    exact ⟨p, dx, l, rfl, e _ _ h, ex_l e h1⟩
  | two a b =>
    obtain ⟨p, dx, l, m, rfl, h, h1, h2⟩ := h
    exact ⟨p, dx, l, m, rfl, e _ _ h, ex_l e h1, ex_l e h2⟩
theorem NewTold.at {K : PySem.W.Frag} {C : Ad} {H1 H2 : Hp} {v : V} {t : Tld} (h : NewTold C t H1 v H2) : TldAt K C H2 v t := by
  cases t with
  | never =>
    obtain ⟨p, dx, rfl, _, h⟩ := h
    exact ⟨p, dx, rfl, h⟩
  | one a =>
    obtain ⟨p, dx, l, rfl, _, _, h, h1⟩ := h
    exact ⟨p, dx, l, rfl, h, sq_of h1⟩
  | two a b =>
    obtain ⟨p, dx, l, m, rfl, _, _, _, _, h, h1, h2⟩ := h
    exact ⟨p, dx, l, m, rfl, h, sq_of h1, sq_of h2⟩
def showsC (nss : List (List Int)) : Tld → Bool
  | .never => decide (fittingOf nss = [])
  | .one a => decide (fittingOf nss = [a])
  | .two a b => twoShows nss a b
theorem toldM_shows (nss : List (List Int)) (hd : (fittingOf nss).Nodup) : showsC nss (toldM nss) = true := by
  unfold toldM
  cases h : fittingOf nss with
  | nil => exact decide_eq_true h
  | cons a r =>
    cases r with
    | nil => exact decide_eq_true h
    | cons b r =>
      show twoShows nss a b = true
      unfold twoShows
      rw [h] at hd ⊢
      have : a ≠ b := fun e => (List.nodup_cons.mp hd).1 (by rw [e]; exact List.mem_cons_self)
      simp [this]
section
variable {K : PySem.W.Frag} {C : Ad} {σ : L2.St} {H : Hp} {ta tb tc : TE} {v : V} {a g c : Addr}
theorem ev_showsC {t : Tld} {nss : List (List Int)} (ha : Ev ta σ H v) (h : TldAt K C H v t) (hb : Ev tb σ H (.ref a)) (hr : RowsAt K H a nss) (ck : CluesR nss) :
    Ev (tAlt (tMeth C.cOne "shows" (sp_One_shows K C) [] E0 ta (tCons tb tNil)) (tAlt (tMeth C.cTwo "shows" (sp_Two_shows K C) [] E0 ta (tCons tb tNil)) (tMeth C.cNever "shows" (sp_Never_shows K) [] E0 ta (tCons tb tNil)))) σ H (.bl (showsC nss t)) := fun H1 e Q q => by
  cases t with
  | one ns =>
    refine .inl (ha H1 e _ fun H2 e2 => ?_)
    obtain ⟨p, dx, l, rfl, h1, h2⟩ := h.mono (e.trans e2)
    exact ⟨p, dx, _, rfl, h1, fldsC_shows, hb H2 (e.trans e2) _ fun H3 e3 => ⟨p, a, dx, l, nss, ns, rfl, e3 _ _ h1, ex_l e3 h2, hr.mono ((e.trans e2).trans e3), ck, fun H4 e4 => q H4 ((e2.trans e3).trans e4)⟩⟩
  | two ns ms =>
    refine .inr (.inl (ha H1 e _ fun H2 e2 => ?_))
    obtain ⟨p, dx, l, m, rfl, h1, h2, h3⟩ := h.mono (e.trans e2)
    exact ⟨p, dx, _, rfl, h1, flds2_shows, hb H2 (e.trans e2) _ fun H3 e3 => ⟨p, a, dx, l, m, nss, ns, ms, rfl, e3 _ _ h1, ex_l e3 h2, ex_l e3 h3, hr.mono ((e.trans e2).trans e3), ck, fun H4 e4 => q H4 ((e2.trans e3).trans e4)⟩⟩
  | never =>
    refine .inr (.inr (ha H1 e _ fun H2 e2 => ?_))
    obtain ⟨p, dx, rfl, h1⟩ := h.mono (e.trans e2)
    exact ⟨p, dx, _, rfl, h1, rfl, hb H2 (e.trans e2) _ fun H3 e3 => ⟨p, a, nss, rfl, hr.mono ((e.trans e2).trans e3), ck, fun H4 e4 => q H4 ((e2.trans e3).trans e4)⟩⟩
end
def AnsAt (C : Ad) (H : Hp) (v : V) : Ans → Prop
  | .ring => ∃ p dx, v = .ref p ∧ H p = some (.ins C.cRing dx [])
  | .split x y => ∃ p dx, v = .ref p ∧ H p = some (.ins C.cSplit dx (flds2 (.int x) (.int y)))
  | .hole x => ∃ p dx, v = .ref p ∧ H p = some (.ins C.cHole dx (flds1 (.int x)))
theorem AnsAt.mono {C : Ad} {H H' : Hp} {v : V} {t : Ans} (e : Ex H H') (h : AnsAt C H v t) : AnsAt C H' v t := by
  cases t <;> (obtain ⟨p, dx, rfl, h⟩ := h; exact ⟨p, dx, rfl, e _ _ h⟩)
theorem NewAns.at {C : Ad} {H1 H2 : Hp} {v : V} {t : Ans} (h : NewAns C t H1 v H2) : AnsAt C H2 v t := by
  cases t <;> (obtain ⟨p, dx, rfl, _, h⟩ := h; exact ⟨p, dx, rfl, h⟩)
def showsG (h w : Nat) (cs : List Int) : Ans → Bool
  | .ring => isRing h w cs
  | .split x y => splitShows h w cs x y
  | .hole x => holeShows h w cs x
section
variable {K : PySem.W.Frag} {C : Ad} {σ : L2.St} {H : Hp} {ta tb tc : TE} {v : V} {h w : Nat} {cs : List Int}
theorem ev_showsG {t : Ans} (ha : Ev ta σ H v) (h0 : AnsAt C H v t) (hb : EvST K tb σ H [.int (h : Int), .int (w : Int)]) (gk : GOk h w) (hc : EvS K tc σ H (cs.map V.int)) (hn : cs ≠ []) (hl : cs.length ≤ 1000) :
    Ev (tAlt (tMeth C.cRing "shows" (sp_Ring_shows K) [] E0 ta (tCons tb (tCons tc tNil))) (tAlt (tMeth C.cSplit "shows" (sp_Split_shows K C) [] E0 ta (tCons tb (tCons tc tNil))) (tMeth C.cHole "shows" (sp_Hole_shows K C) [] E0 ta (tCons tb (tCons tc tNil))))) σ H (.bl (showsG h w cs t)) := fun H1 e Q q => by
  cases t with
  | ring =>
    refine .inl (ha H1 e _ fun H2 e2 => ?_)
    obtain ⟨p, dx, rfl, h1⟩ := h0.mono (e.trans e2)
    exact ⟨p, dx, _, rfl, h1, rfl, hb H2 (e.trans e2) _ fun g H3 e3 hg => hc H3 ((e.trans e2).trans e3) _ fun c H4 e4 hc4 => ⟨p, g, c, h, w, cs, rfl, ex_t e4 hg, gk, hc4, hn, hl, fun H5 e5 => q H5 (((e2.trans e3).trans e4).trans e5)⟩⟩
  | split x y =>
    refine .inr (.inl (ha H1 e _ fun H2 e2 => ?_))
    obtain ⟨p, dx, rfl, h1⟩ := h0.mono (e.trans e2)
    exact ⟨p, dx, _, rfl, h1, flds2_shows, hb H2 (e.trans e2) _ fun g H3 e3 hg => hc H3 ((e.trans e2).trans e3) _ fun c H4 e4 hc4 => ⟨p, g, c, h, w, cs, dx, x, y, rfl, e4 _ _ (e3 _ _ h1), ex_t e4 hg, gk, hc4, hl, fun H5 e5 => q H5 (((e2.trans e3).trans e4).trans e5)⟩⟩
  | hole x =>
    refine .inr (.inr (ha H1 e _ fun H2 e2 => ?_))
    obtain ⟨p, dx, rfl, h1⟩ := h0.mono (e.trans e2)
    exact ⟨p, dx, _, rfl, h1, flds1_shows, hb H2 (e.trans e2) _ fun g H3 e3 hg => hc H3 ((e.trans e2).trans e3) _ fun c H4 e4 hc4 => ⟨p, g, c, h, w, cs, dx, x, rfl, e4 _ _ (e3 _ _ h1), ex_t e4 hg, gk, hc4, fun H5 e5 => q H5 (((e2.trans e3).trans e4).trans e5)⟩⟩
end
/-! ### rising lists of lists are listed once -/
theorem cellsOf_inj {m j k : Nat} (hj : j < 2 ^ m) (hk : k < 2 ^ m) (e : cellsOf m j = cellsOf m k) : j = k := by
  have bit : ∀ c < m, j / 2 ^ c % 2 = k / 2 ^ c % 2 := fun c hc => by
    have mem : ∀ n, (c : Int) ∈ cellsOf m n ↔ n / 2 ^ c % 2 = 1 := fun n => by
      unfold cellsOf
      simp only [List.mem_map, List.mem_filter, List.mem_range, decide_eq_true_eq]
      constructor
      · rintro ⟨c', ⟨_, h⟩, e'⟩
        have : c' = c := by omega
        rw [← this]
        exact h
      · exact fun h => ⟨c, ⟨hc, h⟩, rfl⟩
    have h1 := mem j
    have h2 := mem k
    rw [e] at h1
    have : j / 2 ^ c % 2 = 1 ↔ k / 2 ^ c % 2 = 1 := h1.symm.trans h2
    omega
  have key : ∀ n, n ≤ m → j % 2 ^ n = k % 2 ^ n := by
    intro n
    induction n with
    | zero => intro _; simp [Nat.mod_one]
    | succ n ih =>
      intro hn
      rw [Nat.pow_succ, Nat.mod_mul, Nat.mod_mul, ih (by omega), bit n (by omega)]
  have := key m (Nat.le_refl m)
  rwa [Nat.mod_eq_of_lt hj, Nat.mod_eq_of_lt hk] at this
theorem ringsTo_nodup (h w i : Nat) (hi : i < 2 ^ (h * w)) : (ringsTo h w i).Nodup := by
  unfold ringsTo
  refine List.Pairwise.filter _ ?_
  rw [List.pairwise_map]
  refine List.Pairwise.imp_of_mem (R := fun a b => a < b) (fun {a b} ha hb hlt e => ?_) List.pairwise_lt_range
  have := List.mem_range.mp ha
  have := List.mem_range.mp hb
  have := cellsOf_inj (by omega) (by omega) e
  omega
theorem allRings_nodup (h w : Nat) : (allRings h w).Nodup := by
  unfold allRings
  have p : 1 ≤ 2 ^ (h * w) := Nat.one_le_two_pow
  exact (List.mergeSort_perm _ _).nodup_iff.mpr (ringsTo_nodup h w _ (by omega))
theorem fittingOf_nodup (nss : List (List Int)) : (fittingOf nss).Nodup := (allRings_nodup _ _).filter _
theorem told_shows (nss : List (List Int)) : showsC nss (toldM nss) = true := toldM_shows nss (fittingOf_nodup nss)
/-! ### clues written in place -/
section
variable {K : PySem.W.Frag} {C : Ad} {σ : L2.St} {H : Hp} {ta : TE} {E : XK} {nss : List (List Int)}
theorem ep_fittingD (ha : EvD K ta σ H (dII nss)) (hb : cluesB nss = true) : EvP (tCall (sp_fitting K C) [] E (tCons ta tNil)) σ H (fun H1 v H2 => NewLL H1 v H2 (ints2 (fittingOf nss))) := fun H1 e Q q =>
  ha H1 e _ fun v H2 e2 hv => by
    obtain ⟨a, rfl, hr⟩ := rows_of_dp hv
    exact ⟨_, rfl, doorC_good hr hb ⟨nss, hr, cluesB_R hb, fun v H3 e3 z => q v H3 (e2.trans e3) (z.back e2)⟩⟩
theorem ep_toldD (ha : EvD K ta σ H (dII nss)) (hb : cluesB nss = true) : EvP (tCall (sp_told K C) [] E (tCons ta tNil)) σ H (NewTold C (toldM nss)) := fun H1 e Q q =>
  ha H1 e _ fun v H2 e2 hv => by
    obtain ⟨a, rfl, hr⟩ := rows_of_dp hv
    exact ⟨_, rfl, doorC_good hr hb ⟨nss, hr, cluesB_R hb, fun v H3 e3 z => q v H3 (e2.trans e3) (z.back e2)⟩⟩
end

/-! ### _law_says, _law_shut, _law_due -/
open Sd.J
def sp_l_says (K : PySem.W.Frag) : Sp := fun vs H Q _ => ∃ a b, vs = [.bl a, .bl b] ∧ RetV (.bl (decide (a = b))) H Q
theorem ev_l_says {K : PySem.W.Frag} {σ : L2.St} {H : Hp} {ta tb : TE} {E : XK} {a b : Bool} (ha : Ev ta σ H (.bl a)) (hb : Ev tb σ H (.bl b)) : Ev (tCall (sp_l_says K) [] E (tCons ta (tCons tb tNil))) σ H (.bl (decide (a = b))) := fun H1 e Q q =>
  ha H1 e _ fun H2 e2 => hb H2 (e.trans e2) _ fun H3 e3 => ⟨a, b, rfl, fun H4 e4 => q H4 ((e2.trans e3).trans e4)⟩
def t_l_says (K : PySem.W.Frag) : TS := (tRet (tAndV (tCB (rIsi K) (tCons (tVar 0) (tCons (tC (.ty "bool")) tNil))) (tOp rEq (tVar 0) (tVar 1))))
theorem pure_l_says {K : PySem.W.Frag} {vs : List V} {H : Hp} {Q : VK} {E : XK} {D : Ends} (hD : D.rt = Q) {N : List Str} (hN : N.length = 2) (h : sp_l_says K vs H Q E) : t_l_says K D (start N vs) H := by
  obtain ⟨a, b, rfl, q⟩ := h
  subst hD
  rw [start_eq hN]
  change t_l_says K D [some (.bl a), some (.bl b)] H
  refine s_ret (ev_is (ev_andV (a := true) (b := decide (a = b)) (ev_isiBool (K := K) (n := "bool") (ev_var rfl) ⟨.base (.bl a), by decide⟩) (fun _ => ev_is (ev_op (x := .bl a) (y := .bl b) (ev_var rfl) (ev_var rfl) (rv_eq rfl)) (by congr 1; cases a <;> cases b <;> rfl))) (by rw [Bool.true_and])) fun H1 e1 => q H1 e1
/-! a cell's neighbours are four just where it is not at the edge -/
theorem edge_len {h w : Nat} (gk : GOk h w) {o : Int} (h0 : 0 ≤ o) (h1 : o < (h : Int) * w) : decide ((lBeside h w o).length < 4) = onEdge h w o := by
  rw [lBeside_eq gk h0 h1]
  obtain ⟨g1, g2, g3, g4⟩ := gk
  have m1 := Int.emod_lt_of_pos o (show (0 : Int) < (w : Int) by omega)
  have m0 := Int.emod_nonneg o (show (w : Int) ≠ 0 by omega)
  unfold beside besideA besideB besideC besideD onEdge
  generalize o % (w : Int) = m at *
  generalize (w : Int) * ((h : Int) - 1) = e at *
  rw [Bool.eq_iff_iff]
  simp only [Bool.or_eq_true, decide_eq_true_eq]
  split <;> split <;> split <;> split <;> simp <;> omega
def sp_l_shut (K : PySem.W.Frag) : Sp := fun vs H Q _ => ∃ g c x h w cs, vs = [.ref g, .ref c, .int x] ∧ SqT K H g [.int ((h : Nat) : Int), .int ((w : Nat) : Int)] ∧ GOk h w ∧ SqL K H c ((cs : List Int).map V.int) ∧ RetV (.bl (holeShows h w cs x)) H Q
theorem ev_l_shut {K : PySem.W.Frag} {σ : L2.St} {H : Hp} {ta tb tc : TE} {E : XK} {h w : Nat} {x : Int} {cs : List Int} (ha : EvST K ta σ H [.int (h : Int), .int (w : Int)]) (gk : GOk h w) (hc : EvS K tb σ H (cs.map V.int)) (hx : Ev tc σ H (.int x)) :
    Ev (tCall (sp_l_shut K) [] E (tCons ta (tCons tb (tCons tc tNil)))) σ H (.bl (holeShows h w cs x)) := fun H1 e Q q =>
  ha H1 e _ fun g H2 e2 hg => hc H2 (e.trans e2) _ fun c H3 e3 hc3 => hx H3 ((e.trans e2).trans e3) _ fun H4 e4 => ⟨g, c, x, h, w, cs, rfl, ex_t (e3.trans e4) hg, gk, ex_l e4 hc3, fun H5 e5 => q H5 (((e2.trans e3).trans e4).trans e5)⟩
def t_l_shut (K : PySem.W.Frag) : TS := (tSeq (tIfS (tOr (tTest (tOp (rIn K false) (tVar 2) (tVar 1))) (tNot (tTest (tChain oLe oLt (tC (.int 0)) (tVar 2) (tOp oMul (tOp (rIxT K) (tVar 0) (tC (.int 0))) (tOp (rIxT K) (tVar 0) (tC (.int 1)))))))) (tRet (tC (.bl false))) tNext)
      (tSeq (tAsg (tLc (iRng1 (tCons (tOp oMul (tOp (rIxT K) (tVar 0) (tC (.int 0))) (tOp (rIxT K) (tVar 0) (tC (.int 1)))) tNil)) (gName 4) (tTest (tOp (rIn K true) (tVar 4) (tVar 1))) (tVar 4) [4]) (gName 3))
      (tRet (tNotV (tCB (rAny K) (tCons (tLc (iList K (tCall (sp_l_spread K) [] E0 (tCons (tVar 0) (tCons (tVar 2) (tCons (tVar 3) tNil))))) (gName 4) tYes (tOp oLt (tCB (rLenS K) (tCons (tCall (sp_l_beside K) [] E0 (tCons (tVar 0) (tCons (tVar 4) tNil))) tNil)) (tC (.int 4))) [4]) tNil))))))
theorem rest_in {h w : Nat} (gk : GOk h w) (cs : List Int) : InGrid h w (restOf h w cs) := fun x hx => ((mem_rest gk).mp hx).1
theorem pure_l_shut {K : PySem.W.Frag} {vs : List V} {H : Hp} {Q : VK} {E : XK} {D : Ends} (hD : D.rt = Q) {N : List Str} (hN : N.length = 5) (h : sp_l_shut K vs H Q E) : t_l_shut K D (start N vs) H := by
  obtain ⟨g, c, x, h, w, cs, rfl, hs, gk, hc, q⟩ := h
  subst hD
  rw [start_eq hN]
  change t_l_shut K D [some (.ref g), some (.ref c), some (.int x), none, none] H
  have gb := gk
  obtain ⟨g1, g2, g3, g4⟩ := gb
  have hwl := hw_le gk
  have cast : ((h * w : Nat) : Int) = (h : Int) * w := Int.natCast_mul h w
  have tst : EvT (tOr (tTest (tOp (rIn K false) (tVar 2) (tVar 1))) (tNot (tTest (tChain oLe oLt (tC (.int 0)) (tVar 2) (tOp oMul (tOp (rIxT K) (tVar 0) (tC (.int 0))) (tOp (rIxT K) (tVar 0) (tC (.int 1)))))))) [some (.ref g), some (.ref c), some (.int x), none, none] H (!(!decide (x ∈ cs) && (decide (0 ≤ x) && decide (x < (h : Int) * w)))) :=
    et_is (et_or (et_test (ev_isIn (K := K) (ev_var rfl) (es_of (ev_var rfl) hc))) (fun _ => et_not (et_test (ev_chain (x := .int 0) (y := .int x) (z := .int ((h : Int) * w)) ev_c (ev_var rfl) rv_I0 (fun _ => by walk_at "ev") (fun _ => rv_I0))))) (by cases decide (x ∈ cs) <;> simp)
  refine q_when tst (fun hb H1 e1 => ?_) (fun hb H1 e1 => ?_)
  · refine s_ret ev_c fun H2 e2 => ?_
    have : holeShows h w cs x = false := by
      unfold holeShows
      rw [Bool.not_eq_true'] at hb
      rw [hb, Bool.false_and]
    rw [← this]
    exact q H2 (e1.trans e2)
  · rw [Bool.not_eq_false'] at hb
    have hx : 0 ≤ x ∧ x < (h : Int) * w := by
      simp only [Bool.and_eq_true, decide_eq_true_eq] at hb
      exact hb.2
    have hc1 := ex_l e1 hc
    have hs1 := ex_t e1 hs
    have l := el_lcR (σ := [some (.ref g), some (.ref c), some (.int x), none, none]) (H := H1) (t := tTest (tOp (rIn K true) (tVar 4) (tVar 1))) (te := tVar 4) (j := 4) (vs := [4]) (n := h * w) (ta := tCons (tOp oMul (tOp (rIxT K) (tVar 0) (tC (.int 0))) (tOp (rIxT K) (tVar 0) (tC (.int 1)))) tNil)
      (fun i => !decide ((i : Int) ∈ cs)) (fun i => V.int (i : Int)) (ea_cons (by rw [cast]; walk_at "ev") ea_nil) (by omega) (fun x => rfl) (fun i H2 e2 hi => et_test (ev_notIn (ev_var rfl) (es_of (ev_var rfl) (ex_l e2 hc1)))) (fun i H2 e2 hi _ => ev_var rfl)
    have le : (((List.range (h * w)).filter fun (i : Nat) => !decide ((i : Int) ∈ cs)).map fun (i : Nat) => V.int (i : Int)) = (restOf h w cs).map V.int := by
      unfold restOf
      rw [List.map_map]
      rfl
    rw [le] at l
    refine q_asgL (i := 3) l fun r H2 hr e2 h2 => ?_
    have rl := restOf_len h w cs
    have hs2 := ex_t e2 hs1
    have rin := rest_in gk cs
    have sub : ∀ o ∈ spread h w x (restOf h w cs), 0 ≤ o ∧ o < (h : Int) * w := fun o ho => by
      rcases List.mem_cons.mp ((spread_ok h (w := w) g3 x (restOf h w cs)).2 o ho) with rfl | z
      · exact hx
      · exact rin o z
    have isI : holeShows h w cs x = (spread h w x (restOf h w cs)).all fun o => !onEdge h w o := by
      unfold holeShows
      rw [hb, Bool.true_and]
      rfl
    have sp := ep_l_spread (K := K) (E := E0) (σ := [some (.ref g), some (.ref c), some (.int x), some (.ref r), none]) (H := H2) (ta := tVar 0) (tb := tVar 2) (tc := tVar 3) (est_of (ev_var rfl) hs2) gk (ev_var rfl) (es_of (ev_var rfl) (sq_of h2)) rin (by omega) hx
    have key : Ev (tNotV (tCB (rAny K) (tCons (tLc (iList K (tCall (sp_l_spread K) [] E0 (tCons (tVar 0) (tCons (tVar 2) (tCons (tVar 3) tNil))))) (gName 4) tYes (tOp oLt (tCB (rLenS K) (tCons (tCall (sp_l_beside K) [] E0 (tCons (tVar 0) (tCons (tVar 4) tNil))) tNil)) (tC (.int 4))) [4]) tNil))) [some (.ref g), some (.ref c), some (.int x), some (.ref r), none] H2 (.bl (holeShows h w cs x)) := fun H3 e3 Q' q' => sp H3 e3 _ fun v H4 e4 hv => by
      obtain ⟨p, fs, rfl, _, h4, hm, fl⟩ := hv
      have hs4 := ex_t (e3.trans e4) hs2
      have inner := el_lcI (K := K) (ns := fs) (j := 4) (vs := [4]) (tl := tC (.ref p)) (σ := [some (.ref g), some (.ref c), some (.int x), some (.ref r), none]) (H := H4) (t := tYes) (te := tOp oLt (tCB (rLenS K) (tCons (tCall (sp_l_beside K) [] E0 (tCons (tVar 0) (tCons (tVar 4) tNil))) tNil)) (tC (.int 4))) (fun _ => true) (fun o => V.bl (onEdge h w o)) (es_of ev_c (sq_of h4)) (by omega) (fun _ => rfl) (fun _ _ _ _ => et_yes) (fun o H5 e5 ho _ => by
        have ob := sub o ((hm o).mp ho)
        refine ev_is (ev_op (x := .int ((lBeside h w o).length : Int)) (y := .int 4) (ev_is (ev_lenS (K := K) (es_new (el_l_beside (K := K) (ea_cons (ev_var rfl) (ea_cons (ev_var rfl) ea_nil)) (ex_t e5 hs4) gk))) (by rw [List.length_map])) ev_c rv_I0) ?_
        rw [← edge_len gk ob.1 ob.2]
        congr 1
        rw [Bool.eq_iff_iff]
        simp
        omega)
      have anyV := ev_anyS (K := K) (bs := (fs.filter fun _ => true).map fun o => onEdge h w o) (es_new (by rw [List.map_map]; exact inner))
      have := ev_notV anyV
      rw [show (!((fs.filter fun _ => true).map fun o => onEdge h w o).any id) = holeShows h w cs x by
        rw [isI, show (fs.filter fun _ => true) = fs from List.filter_eq_self.mpr fun _ _ => rfl, Bool.eq_iff_iff, Bool.not_eq_true', List.any_eq_false, List.all_eq_true]
        constructor
        · intro hh o ho
          have := hh _ (List.mem_map.mpr ⟨o, (hm o).mpr ho, rfl⟩)
          simpa using this
        · intro hh y hy
          obtain ⟨o, ho, rfl⟩ := List.mem_map.mp hy
          simpa using hh o ((hm o).mp ho)] at this
      exact this H4 (Ex.refl H4) Q' fun H5 e5 => q' H5 (e4.trans e5)
    exact s_ret key fun H3 e3 => q H3 ((e1.trans e2).trans e3)
/-! isinstance of an answer -/
def kA (a b c : Bool) : Ans → Bool
  | .ring => a
  | .split _ _ => b
  | .hole _ => c
theorem ev_isiA {K : PySem.W.Frag} {C : Ad} {σ : L2.St} {H : Hp} {ta : TE} {v : V} {t : Ans} {e : Addr} {a b c : Bool} (ha : Ev ta σ H v) (h : AnsAt C H v t) (ci_Ring : Ci K C.cRing) (ci_Split : Ci K C.cSplit) (ci_Hole : Ci K C.cHole) (k1 : PySem.W.kitOne K (.ref C.cRing) (.ref e) = some a) (k2 : PySem.W.kitOne K (.ref C.cSplit) (.ref e) = some b) (k3 : PySem.W.kitOne K (.ref C.cHole) (.ref e) = some c) :
    Ev (tCB (rIsi K) (tCons ta (tCons (tC (.ref e)) tNil))) σ H (.bl (kA a b c t)) := by
  cases t with
  | ring =>
    obtain ⟨p, dx, rfl, h⟩ := h
    exact ev_isiC ha h ci_Ring k1
  | split x y =>
    obtain ⟨p, dx, rfl, h⟩ := h
    exact ev_isiC ha h ci_Split k2
  | hole x =>
    obtain ⟨p, dx, rfl, h⟩ := h
    exact ev_isiC ha h ci_Hole k3

/-! ### _law_refused (k03) -/
def sp_l_refused (K : PySem.W.Frag) (C : Ad) : Sp := fun vs H Q _ => ∃ g c h w cs, vs = [.ref g, .ref c] ∧ SqT K H g [.int ((h : Nat) : Int), .int ((w : Nat) : Int)] ∧ GOk h w ∧ SqL K H c ((cs : List Int).map V.int) ∧ COk h w cs ∧ isRing h w cs = false ∧ RetV (.bl true) H Q
theorem ev_l_refused {K : PySem.W.Frag} {C : Ad} {σ : L2.St} {H : Hp} {ta tb : TE} {E : XK} {h w : Nat} {cs : List Int} (ha : EvST K ta σ H [.int (h : Int), .int (w : Int)]) (gk : GOk h w) (hc : EvS K tb σ H (cs.map V.int)) (ck : COk h w cs) (hi : isRing h w cs = false) :
    Ev (tCall (sp_l_refused K C) [] E (tCons ta (tCons tb tNil))) σ H (.bl true) := fun H1 e Q q =>
  ha H1 e _ fun g H2 e2 hg => hc H2 (e.trans e2) _ fun c H3 e3 hc3 => ⟨g, c, h, w, cs, rfl, ex_t e3 hg, gk, hc3, ck, hi, fun H4 e4 => q H4 ((e2.trans e3).trans e4)⟩
/-- isinstance of the caught error -/
theorem ev_isX {K : PySem.W.Frag} {σ : L2.St} {H : Hp} {i : Nat} {a D e : Addr} {b : Bool} (hi : σ[i]? = some (some (.ref a))) (ex : ExcC K D) (k : PySem.W.kitOne K (.ref D) (.ref e) = some b) : Ev (tCB (rIsX K (.ref D) none a) (tCons (tVar i) (tCons (tC (.ref e)) tNil))) σ H (.bl b) := fun H1 e1 Q q =>
  (ev_var (H := H) hi) H1 e1 _ fun H2 e2 => ⟨D, rfl, rfl, ex, .ref e, .ref e, b, rfl, fun u r => by cases r; rfl, k, q H2 e2⟩
def t_l_refused (K : PySem.W.Frag) (C : Ad) : TS := (tSeq (tTry K (.ref C.cRingError) 2 (fun W => (tDrop (tCallS (sp_walk K C) (WE W) (tCons (tVar 0) (tCons (tVar 1) tNil))))) (fun ea ec ed => (tSeq (tAsg (tLst (tCons (tCB (rIsX K ec ed ea) (tCons (tVar 2) (tCons (tC (.ref C.cBadCells)) tNil))) (tCons (tCB (rIsX K ec ed ea) (tCons (tVar 2) (tCons (tC (.ref C.cBadClues)) tNil))) (tCons (tCB (rIsX K ec ed ea) (tCons (tVar 2) (tCons (tC (.ref C.cBadGrid)) tNil))) tNil)))) (gName 3))
      (tRet (tAndV (tCB (rIsX K ec ed ea) (tCons (tVar 2) (tCons (tC (.ref C.cNoRing)) tNil))) (tNotV (tCB (rAny K) (tCons (tVar 3) tNil))))))))
      (tRet (tC (.bl false))))
theorem pure_l_refused {K : PySem.W.Frag} {C : Ad} {vs : List V} {H : Hp} {Q : VK} {E : XK} {D : Ends} (hD : D.rt = Q) {N : List Str} (hN : N.length = 4) (ex_NoRing : ExcC K C.cNoRing) (em_NoRing : PySem.W.exmOne K (.ref C.cNoRing) (.ref C.cRingError) = some true)
    (ki_NoRing_BadCells : PySem.W.kitOne K (.ref C.cNoRing) (.ref C.cBadCells) = some false) (ki_NoRing_BadClues : PySem.W.kitOne K (.ref C.cNoRing) (.ref C.cBadClues) = some false) (ki_NoRing_BadGrid : PySem.W.kitOne K (.ref C.cNoRing) (.ref C.cBadGrid) = some false) (ki_NoRing_NoRing : PySem.W.kitOne K (.ref C.cNoRing) (.ref C.cNoRing) = some true)
    (h : sp_l_refused K C vs H Q E) : t_l_refused K C D (start N vs) H := by
  obtain ⟨g, c, h, w, cs, rfl, hs, gk, hc, ck, hi, q⟩ := h
  subst hD
  rw [start_eq hN]
  change t_l_refused K C D [some (.ref g), some (.ref c), none, none] H
  refine ⟨_, rfl, _, rfl, .ref g, .ref c, rfl, .inr ⟨g, h, w, rfl, hs, gk, .inr ⟨c, cs, rfl, hc, ck, .inl ⟨hi, fun H1 e1 => ?_⟩⟩⟩⟩
  refine ⟨true, em_NoRing, fun _ a ha => ?_, fun z => nomatch z⟩
  refine q_asgL (i := 3) (xs := [V.bl false, V.bl false, V.bl false]) (el_lst (ea_cons (ev_isX rfl ex_NoRing ki_NoRing_BadCells) (ea_cons (ev_isX rfl ex_NoRing ki_NoRing_BadClues) (ea_cons (ev_isX rfl ex_NoRing ki_NoRing_BadGrid) ea_nil))) (by simp)) fun p H2 hp e2 h2 => ?_
  exact s_ret (v := .bl true) (ev_is (ev_andV (a := true) (b := true) (ev_isX rfl ex_NoRing ki_NoRing_NoRing) (fun _ => ev_is (ev_notV (ev_anyS (K := K) (bs := [false, false, false]) (es_of (ev_var rfl) (sq_of h2)))) rfl)) rfl) fun H3 e3 => q H3 ((e1.trans e2).trans e3)

/-! ### _law_right (k03) -/
open Sd.J
section
variable {K : PySem.W.Frag} {σ : L2.St} {H H' : Hp} {ta tb te tl : TE} {D : Ends} {tz : TS}
theorem el_catLL {xs ys : List V} (ha : EvL ta σ H xs) (hb : EvL tb σ H ys) (hl : xs.length + ys.length ≤ 1000) : EvL (tOp rCat ta tb) σ H (xs ++ ys) := fun H1 e Q q =>
  ha H1 e _ fun p H2 hp e2 h2 => hb H2 (e.trans e2) _ fun r H3 hr e3 h3 => ⟨p, r, xs, ys, rfl, rfl, e3 _ _ h2, h3, sz_of (by omega), fun s hs => q s _ (fresh_back (e2.trans e3) hs) ((e2.trans e3).trans (Ex.new hs)) upd_same⟩
/-- [a new tuple for x, y in zip(xs, ys)] -/
theorem ep_lcZU {i j : Nat} {vs : List Nat} {xs ys : List V} (g : Nat → List V) (ha : EvS K ta σ H xs) (hb : EvS K tb σ H ys) (hl : xs.length = ys.length) (hz : xs.length ≤ 40000) (hw : ∀ x y, wipe (((wipe σ vs).set i (some x)).set j (some y)) vs = wipe σ vs)
    (he : ∀ (n : Nat) x y H1, Ex H H1 → xs[n]? = some x → ys[n]? = some y → EvU te (((wipe σ vs).set i (some x)).set j (some y)) H1 (g n)) :
    EvP (tLc (iZip K (tCons ta (tCons tb tNil))) (gTup K 2 (gCons (gName i) (gCons (gName j) gNil))) tYes te vs) σ H (fun H1 v H2 => ∃ p as, v = .ref p ∧ H1 p = none ∧ H2 p = some (.lst (as.map V.ref)) ∧ Paired (fun (a : Addr) us => H2 a = some (.tup us)) as ((List.range xs.length).map g)) := fun H0 e Q q => ha H0 e _ fun a H1 e1 hx => hb H1 (e.trans e1) _ fun b H2 e2 hy => ⟨a, b, xs, ys, rfl, ex_l e2 hx, hy, fun Dl hD => by
  have hx2 := ex_l e2 hx
  refine ⟨fun n m H' => m = xs.length - n ∧ n ≤ xs.length ∧ H2 Dl = none ∧ Ex H2 H' ∧ ∃ as : List Addr, H' Dl = some (.lst (as.map V.ref)) ∧ Paired (fun (a : Addr) us => H' a = some (.tup us)) as ((List.range n).map g), ⟨xs.length, by simp, Nat.zero_le _, hD, Ex.new hD, [], upd_same, .nil⟩, ?_⟩
  rintro n m H' ⟨rfl, hn, p1, p2, as, p3, p4⟩
  by_cases h1 : n < xs.length
  · have h2 : n < ys.length := by omega
    have g1 : xs[n]? = some xs[n] := List.getElem?_eq_getElem h1
    have g2 : ys[n]? = some ys[n] := List.getElem?_eq_getElem h2
    refine .inr ⟨⟨xs, ys, _, _, ex_l p2 hx2, ex_l p2 hy, g1, g2⟩, fun H'' => H2 Dl = none ∧ Ex H2 H'' ∧ ∃ as : List Addr, H'' Dl = some (.lst (as.map V.ref)) ∧ Paired (fun (a : Addr) us => H'' a = some (.tup us)) as ((List.range (n + 1)).map g), fun H'' z => ⟨_, by omega, rfl, h1, z⟩, fun v H'' hv => ?_⟩
    obtain ⟨T, x, y, rfl, nT, rfl, f1, f2⟩ := hv
    have ex : x = xs[n] := Option.some.inj ((f1 _ (ex_l p2 hx2)).symm.trans g1)
    have ey : y = ys[n] := Option.some.inj ((f2 _ (ex_l p2 hy)).symm.trans g2)
    subst ex ey
    refine ⟨T, _, rfl, st_of upd_same, rfl, _, _, rfl, _, _, rfl, rfl, hw _ _, ?_⟩
    have eT : Ex H' (upd H' T (.tup [xs[n], ys[n]])) := Ex.new nT
    have al := Paired.length p4
    rw [List.length_map, List.length_range] at al
    show te _ _ _
    refine he n _ _ H2 ((e.trans e1).trans e2) g1 g2 _ (p2.trans eT) _ fun c H4 hc e4 h4 => ⟨as.map V.ref, e4 _ _ (eT _ _ p3), sz_lt (by rw [List.length_map]; omega), p1, Ex.mut ((p2.trans eT).trans e4) p1, as ++ [c], ?_, ?_⟩
    · rw [upd_same, List.map_append]
      rfl
    · rw [List.range_succ, List.map_append]
      refine paired_snoc (Paired.mapP p4 fun a us ha => ?_) ?_
      · have na : a ≠ Dl := fun z => by rw [z, p3] at ha; cases ha
        rw [upd_ne na]
        exact e4 _ _ (eT _ _ ha)
      · have nc : c ≠ Dl := fun z => by rw [z, eT _ _ p3] at hc; cases hc
        rw [upd_ne nc]
        exact h4
  · have hn' : n = xs.length := by omega
    rw [hn'] at p4
    refine .inl ⟨⟨xs, ys, ex_l p2 hx2, ex_l p2 hy, by omega⟩, q _ H' ((e1.trans e2).trans p2) ⟨Dl, as, rfl, fresh_back (e1.trans e2) p1, p3, p4⟩⟩⟩
end
/-! sides as data -/
abbrev dSd2 (u : Sd2) : PyData := .tuple [dPt u.1, dPt u.2]
def ptLt (p q : Pt) : Prop := p.1 < q.1 ∨ (p.1 = q.1 ∧ p.2 < q.2)
instance (p q : Pt) : Decidable (ptLt p q) := by unfold ptLt; exact inferInstance
def sdLt (u v : Sd2) : Prop := if u.1 = v.1 then ptLt u.2 v.2 else ptLt u.1 v.1
instance (u v : Sd2) : Decidable (sdLt u v) := by unfold sdLt; exact inferInstance
theorem lt_dPt (p q : Pt) : PySem.W.dataLt (dPt p) (dPt q) = decide (ptLt p q) := PySem.W.dataLt_ii ..
theorem alike_dSd (u v : Sd2) : PySem.W.alike (dSd2 u) (dSd2 v) = true := by
  rw [PySem.W.alike, PySem.W.alikeAll, PySem.W.alikeAll, PySem.W.alikeAll, alike_dPt, alike_dPt]
  rfl
theorem lt_dSd (u v : Sd2) : PySem.W.dataLt (dSd2 u) (dSd2 v) = decide (sdLt u v) := by
  rw [PySem.W.dataLt_pair (alike_dPt _ _) (alike_dPt _ _), eqv_dPt, eqv_dPt]
  by_cases h : u.1 = v.1
  · have e : sdLt u v ↔ ptLt u.2 v.2 := by unfold sdLt; rw [if_pos h]
    rw [if_pos (decide_eq_true h), decide_eq_decide.mpr e]
    by_cases h2 : u.2 = v.2
    · rw [if_pos (decide_eq_true h2)]
      refine (decide_eq_false ?_).symm
      have h3 : u.2.1 = v.2.1 ∧ u.2.2 = v.2.2 := by rw [h2]; exact ⟨rfl, rfl⟩
      unfold ptLt
      omega
    · rw [if_neg (by simpa using h2)]
      exact lt_dPt _ _
  · have e : sdLt u v ↔ ptLt u.1 v.1 := by unfold sdLt; rw [if_neg h]
    rw [if_neg (by simpa using h), decide_eq_decide.mpr e]
    exact lt_dPt _ _
def sdLe (u v : Sd2) : Bool := !decide (sdLt v u)
theorem le_dSd {β : Type} (f : β → Sd2) : (PySem.W.dataLe false fun b => dSd2 (f b)) = fun a b => sdLe (f a) (f b) := by
  rw [PySem.W.dataLe_eq]
  funext a b
  show (!PySem.W.dataLt (dSd2 (f b)) (dSd2 (f a))) = _
  rw [lt_dSd]
  rfl
theorem pt_ne {p q : Pt} (h : p ≠ q) : p.1 ≠ q.1 ∨ p.2 ≠ q.2 := by
  by_cases h1 : p.1 = q.1
  · exact .inr fun h2 => h (Prod.ext h1 h2)
  · exact .inl h1
theorem pt_eq {p q : Pt} : p = q ↔ p.1 = q.1 ∧ p.2 = q.2 := ⟨fun h => by rw [h]; exact ⟨rfl, rfl⟩, fun h => Prod.ext h.1 h.2⟩
theorem sdLt_iff (u v : Sd2) : sdLt u v ↔ (u.1.1 < v.1.1 ∨ (u.1.1 = v.1.1 ∧ (u.1.2 < v.1.2 ∨ (u.1.2 = v.1.2 ∧ (u.2.1 < v.2.1 ∨ (u.2.1 = v.2.1 ∧ u.2.2 < v.2.2)))))) := by
  unfold sdLt ptLt
  by_cases h : u.1 = v.1
  · rw [if_pos h]
    have := pt_eq.mp h
    omega
  · rw [if_neg h]
    have := pt_ne h
    omega
def sortSd (us : List Sd2) : List Sd2 := us.mergeSort sdLe
theorem sortSd_perm {us vs : List Sd2} (h : us.Perm vs) : sortSd us = sortSd vs := by
  have tr : ∀ a b c : Sd2, sdLe a b = true → sdLe b c = true → sdLe a c = true := fun a b c h1 h2 => by
    unfold sdLe at *
    simp only [Bool.not_eq_true', decide_eq_false_iff_not, sdLt_iff] at *
    omega
  have to : ∀ a b : Sd2, (sdLe a b || sdLe b a) = true := fun a b => by
    unfold sdLe
    simp only [Bool.or_eq_true, Bool.not_eq_true', decide_eq_false_iff_not, sdLt_iff]
    omega
  have s1 := List.pairwise_mergeSort tr to us
  have s2 := List.pairwise_mergeSort tr to vs
  have p1 : (us.mergeSort sdLe).Perm (vs.mergeSort sdLe) := (List.mergeSort_perm us _).trans (h.trans (List.mergeSort_perm vs _).symm)
  refine p1.eq_of_pairwise (fun a b _ _ h1 h2 => ?_) s1 s2
  unfold sdLe at h1 h2
  simp only [Bool.not_eq_true', decide_eq_false_iff_not, sdLt_iff] at h1 h2
  exact Prod.ext (Prod.ext (by omega) (by omega)) (Prod.ext (by omega) (by omega))
/-- a list of sides as data, in any order -/
def InSd (K : PySem.W.Frag) (us : List Sd2) (H : Hp) (v : V) : Prop := ∃ a, ∃ bs : List (V × Sd2), v = .ref a ∧ SqL K H a (bs.map (·.1)) ∧ (∀ b ∈ bs, Dp K H b.1 (dSd2 b.2)) ∧ (bs.map (·.2)).Perm us
theorem dpAll_sd {K : PySem.W.Frag} {H : Hp} : ∀ {bs : List (V × Sd2)}, (∀ b ∈ bs, Dp K H b.1 (dSd2 b.2)) → DpAll K H (bs.map (·.1)) ((bs.map (·.2)).map dSd2)
  | [], _ => .nil
  | b :: r, h => .cons (h b List.mem_cons_self) (dpAll_sd fun c hc => h c (List.mem_cons_of_mem _ hc))
theorem ed_sortSd {K : PySem.W.Frag} {σ : L2.St} {H : Hp} {ta : TE} {us : List Sd2} (h : EvP ta σ H (fun _ v H2 => InSd K us H2 v)) : EvD K (tCB (rSortV dSd2 K) (tCons ta tNil)) σ H (.list ((sortSd us).map dSd2)) := fun H1 e Q q => h H1 e _ fun v H2 e2 hv => by
  obtain ⟨a, bs, rfl, h1, h2, hp⟩ := hv
  refine ⟨a, bs, rfl, h1, h2, ?_, ?_, fun c hc => ?_, fun s hs => ?_⟩
  · exact PySem.W.AllAlike.of (enc := fun b : V × Sd2 => dSd2 b.2) fun b b' => alike_dSd _ _
  · refine .inl fun d hd => ?_
    obtain ⟨b, _, rfl⟩ := List.mem_map.mp hd
    exact ⟨_, _, rfl⟩
  · show (dSd2 c.2).depth ≤ 40
    simp [PyData.depth, PyData.depthAll, depth_dPt]
  · have e3 : (bs.mergeSort (PySem.W.dataLe false fun b => dSd2 b.2)).map (·.2) = sortSd us := by
      rw [← sortSd_perm hp]
      unfold sortSd
      rw [le_dSd (fun b : V × Sd2 => b.2)]
      exact List.map_mergeSort (r := fun p q : V × Sd2 => sdLe p.2 q.2) (s := sdLe) (f := fun b : V × Sd2 => b.2) (fun _ _ _ _ => rfl)
    refine q _ _ (e2.trans (Ex.new hs)) (.lst (sq_of upd_same) ?_)
    rw [← e3]
    exact dpAll_sd fun b hb => Dp.mono (Ex.new hs) (h2 b (List.mem_mergeSort.mp hb))
theorem ev_lenDp {K : PySem.W.Frag} {σ : L2.St} {H : Hp} {ta : TE} {v : V} {ds : List PyData} (h : Ev ta σ H v) (hd : Dp K H v (.list ds)) : Ev (tCB (rLenS K) (tCons ta tNil)) σ H (.int (ds.length : Int)) := by
  cases hd with
  | lst hs ha => exact ev_is (ev_lenS (K := K) (es_of h hs)) (by rw [dpAll_len ha])
theorem sort_len (us : List Sd2) : (sortSd us).length = us.length := List.length_mergeSort ..
theorem lay_dPt (p : Pt) : PyData.canLay0 (dPt p) = true := by simp [dP, PyData.canLay0, PyData.canLayAll0]
theorem lay_sds : ∀ us : List Sd2, PyData.canLayAll0 (us.map dSd2) = true ∧ PyData.depthAll (us.map dSd2) ≤ 2
  | [] => ⟨rfl, by simp [PyData.depthAll]⟩
  | u :: r => by
    obtain ⟨h1, h2⟩ := lay_sds r
    refine ⟨?_, ?_⟩
    · rw [List.map_cons, PyData.canLayAll0, h1]
      simp [PyData.canLay0, PyData.canLayAll0, lay_dPt]
    · rw [List.map_cons, PyData.depthAll]
      simp [PyData.depth, PyData.depthAll, depth_dPt]
      omega
theorem shaped_sds (us : List Sd2) : SeqAt.shaped (.list (us.map dSd2)) = true := shaped_of_len (lay_sds us).1 (by have := (lay_sds us).2; omega)
theorem eqv_sds_self (us : List Sd2) : PyData.eqv (.list (us.map dSd2)) (.list (us.map dSd2)) = true := SeqAt.eqv_refl _ (by rw [PyData.canLay0]; exact (lay_sds us).1)
theorem minD_first {p : Pt} : ∀ {ps : List Pt}, (∀ q ∈ ps, ¬ ptLt q p) → PySem.W.minD (dPt p) (ps.map dPt) = dPt p
  | [], _ => rfl
  | q :: r, h => by
    have hq := h q List.mem_cons_self
    show PySem.W.minD (if PySem.W.dataLt (dPt q) (dPt p) then dPt q else dPt p) (r.map dPt) = _
    rw [lt_dPt, decide_eq_false hq, if_neg (by decide)]
    exact minD_first fun x hx => h x (List.mem_cons_of_mem _ hx)
theorem dPt_inj {p q : Pt} (h : dPt p = dPt q) : p = q := by
  have := eqv_dPt p q
  rw [h] at this
  by_cases hh : p = q
  · exact hh
  · exfalso
    rw [decide_eq_false hh, eqv_dPt, decide_eq_true rfl] at this
    cases this
theorem pt_tri {p q : Pt} (h : p ≠ q) : (ptLt p q ∧ ¬ ptLt q p) ∨ (ptLt q p ∧ ¬ ptLt p q) := by
  have := pt_ne h
  unfold ptLt
  omega
/-- min(p, q), max(p, q) of unlike points -/
theorem ev_min2 {K : PySem.W.Frag} {σ : L2.St} {H : Hp} {ta tb : TE} {a b : Addr} {p q : Pt} (ha : Ev ta σ H (.ref a)) (hb : Ev tb σ H (.ref b)) (hp : SqT K H a [.int p.1, .int p.2]) (hq : SqT K H b [.int q.1, .int q.2]) (hn : p ≠ q) :
    Ev (tCB (rMin2V dPt K) (tCons ta (tCons tb tNil))) σ H (.ref (if ptLt q p then b else a)) := fun H1 e Q k => ha H1 e _ fun H2 e2 => hb H2 (e.trans e2) _ fun H3 e3 => by
  have e' := (e.trans e2).trans e3
  have mn : PySem.W.minD (dPt p) [dPt q] = dPt (if ptLt q p then q else p) := by
    show (if PySem.W.dataLt (dPt q) (dPt p) then dPt q else dPt p) = _
    rw [lt_dPt]
    by_cases hl : ptLt q p
    · rw [if_pos (decide_eq_true hl), if_pos hl]
    · rw [if_neg (by simpa using hl), if_neg hl]
  refine ⟨(.ref a, p), (.ref b, q), rfl, .tup (ex_t e' hp) (.cons (.int _) (.cons (.int _) .nil)), .tup (ex_t e' hq) (.cons (.int _) (.cons (.int _) .nil)), ⟨fun x hx y hy => ?_, fun x hx => ?_⟩, ?_, fun z => ?_, fun z => ?_⟩
  · simp only [List.mem_cons, List.not_mem_nil, or_false] at hx hy
    rcases hx with rfl | rfl <;> rcases hy with rfl | rfl <;> exact alike_dPt _ _
  · simp only [List.mem_cons, List.not_mem_nil, or_false] at hx
    rcases hx with rfl | rfl <;> exact fun z => PyData.noConfusion z
  · simp [PyData.depthAll, depth_dPt]
  · have := dPt_inj (z.trans mn)
    by_cases hl : ptLt q p
    · rw [if_pos hl] at this
      exact absurd this hn
    · rw [if_neg hl] at k
      exact k H3 (e2.trans e3)
  · have := dPt_inj (z.trans mn)
    by_cases hl : ptLt q p
    · rw [if_pos hl] at k
      exact k H3 (e2.trans e3)
    · rw [if_neg hl] at this
      exact absurd this.symm hn
theorem ev_max2P {K : PySem.W.Frag} {σ : L2.St} {H : Hp} {ta tb : TE} {a b : Addr} {p q : Pt} (ha : Ev ta σ H (.ref a)) (hb : Ev tb σ H (.ref b)) (hp : SqT K H a [.int p.1, .int p.2]) (hq : SqT K H b [.int q.1, .int q.2]) (hn : p ≠ q) :
    Ev (tCB (rMax2V dPt K) (tCons ta (tCons tb tNil))) σ H (.ref (if ptLt q p then a else b)) := fun H1 e Q k => ha H1 e _ fun H2 e2 => hb H2 (e.trans e2) _ fun H3 e3 => by
  have e' := (e.trans e2).trans e3
  have mn : PySem.W.maxD (dPt p) [dPt q] = dPt (if ptLt q p then p else q) := by
    show (if PySem.W.dataLt (dPt p) (dPt q) then dPt q else dPt p) = _
    rw [lt_dPt]
    rcases pt_tri hn with ⟨h1, h2⟩ | ⟨h1, h2⟩
    · rw [if_pos (decide_eq_true h1), if_neg h2]
    · rw [if_neg (by simpa using h2), if_pos h1]
  refine ⟨(.ref a, p), (.ref b, q), rfl, .tup (ex_t e' hp) (.cons (.int _) (.cons (.int _) .nil)), .tup (ex_t e' hq) (.cons (.int _) (.cons (.int _) .nil)), ⟨fun x hx y hy => ?_, fun x hx => ?_⟩, ?_, fun z => ?_, fun z => ?_⟩
  · simp only [List.mem_cons, List.not_mem_nil, or_false] at hx hy
    rcases hx with rfl | rfl <;> rcases hy with rfl | rfl <;> exact alike_dPt _ _
  · simp only [List.mem_cons, List.not_mem_nil, or_false] at hx
    rcases hx with rfl | rfl <;> exact fun z => PyData.noConfusion z
  · simp [PyData.depthAll, depth_dPt]
  · have := dPt_inj (z.trans mn)
    by_cases hl : ptLt q p
    · rw [if_pos hl] at k
      exact k H3 (e2.trans e3)
    · rw [if_neg hl] at this
      exact absurd this hn
  · have := dPt_inj (z.trans mn)
    by_cases hl : ptLt q p
    · rw [if_pos hl] at this
      exact absurd this.symm hn
    · rw [if_neg hl] at k
      exact k H3 (e2.trans e3)
theorem und_minmax (e : Side) : und e = if ptLt (head e) (tail e) then (head e, tail e) else (tail e, head e) := by
  have lt := und_lt e
  rcases und_ends e with h | h
  · rw [h] at lt ⊢
    dsimp only at lt
    rw [if_neg (by unfold ptLt; omega)]
  · rw [h] at lt ⊢
    dsimp only at lt
    rw [if_pos (by unfold ptLt; omega)]
def sp_l_right (K : PySem.W.Frag) (C : Ad) : Sp := fun vs H Q _ => ∃ g c h w cs, vs = [.ref g, .ref c] ∧ SqT K H g [.int ((h : Nat) : Int), .int ((w : Nat) : Int)] ∧ GOk h w ∧ SqL K H c ((cs : List Int).map V.int) ∧ COk h w cs ∧ RetV (.bl true) H Q
theorem ev_l_right {K : PySem.W.Frag} {C : Ad} {σ : L2.St} {H : Hp} {ta tb : TE} {E : XK} {h w : Nat} {cs : List Int} (ha : EvST K ta σ H [.int (h : Int), .int (w : Int)]) (gk : GOk h w) (hc : EvS K tb σ H (cs.map V.int)) (ck : COk h w cs) :
    Ev (tCall (sp_l_right K C) [] E (tCons ta (tCons tb tNil))) σ H (.bl true) := fun H1 e Q q =>
  ha H1 e _ fun g H2 e2 hg => hc H2 (e.trans e2) _ fun c H3 e3 hc3 => ⟨g, c, h, w, cs, rfl, ex_t e3 hg, gk, hc3, ck, fun H4 e4 => q H4 ((e2.trans e3).trans e4)⟩
/-- the rim's sides, as the law lists them -/
theorem insd_rim {K : PySem.W.Frag} {S : Cell → Bool} {H1 H2 : Hp} {v : V} {us : List Sd2} (h : NewRim S H1 v H2) (hu : ∀ vs, IsRim S vs → us.Perm vs) : InSd K us H2 v := by
  obtain ⟨p, as, vs, rfl, _, h2, hp, ir, _⟩ := h
  obtain ⟨zs, z1, z2, z3⟩ := paired_zip hp
  refine ⟨p, zs.map fun z => (V.ref z.1, z.2), rfl, ?_, fun b hb => ?_, ?_⟩
  · rw [List.map_map]
    rw [z1, List.map_map] at h2
    exact sq_of h2
  · obtain ⟨z, hz, rfl⟩ := List.mem_map.mp hb
    obtain ⟨q1, q2, s1, s2, s3⟩ := z3 z hz
    exact .tup (st_of s1) (.cons s2.dp (.cons s3.dp .nil))
  · rw [List.map_map]
    have : (zs.map ((fun x : V × Sd2 => x.2) ∘ fun z : Addr × Sd2 => (V.ref z.1, z.2))) = vs := by
      rw [z2]
      rfl
    rw [this]
    exact (hu vs ir).symm

/-! ### _law_right (k03), the steps -/
open Sd.J
theorem hd_ne_tl (e : Side) : head e ≠ tail e := by
  obtain ⟨⟨r, c⟩, s⟩ := e
  revert s
  refine fin4 _ ?_ ?_ ?_ ?_ <;> (intro z; simp [head, tail] at z; omega)
theorem rot_at {α : Type} {xs : List α} {n : Nat} (h : n < xs.length) : (xs.drop 1 ++ xs.take 1)[n]? = xs[(n + 1) % xs.length]? := by
  by_cases h1 : n + 1 < xs.length
  · rw [List.getElem?_append_left (by rw [List.length_drop]; omega), List.getElem?_drop, Nat.mod_eq_of_lt h1, Nat.add_comm]
  · have e : n + 1 = xs.length := by omega
    rw [List.getElem?_append_right (by rw [List.length_drop]; omega), List.length_drop, e, Nat.mod_self, show n - (xs.length - 1) = 0 by omega, List.getElem?_take_of_lt (by decide)]
section
variable {S : Cell → Bool} {e : Side} {N : Nat}
theorem tail_mod (p : Per S e N) {n : Nat} (h : n < N) : tail (it S e ((n + 1) % N)) = head (it S e n) := by
  rw [← tail_succ (S := S)]
  show _ = tail (it S e (n + 1))
  by_cases h1 : n + 1 < N
  · rw [Nat.mod_eq_of_lt h1]
  · have e1 : n + 1 = N := by omega
    rw [e1, Nat.mod_self, p.1.2]
    rfl
end
/-- the n-th side of the walk, made of the walked points -/
def pairOfWalk (S : Cell → Bool) (e : Side) (qs : List Addr) (n : Nat) : List V :=
  if ptLt (head (it S e n)) (tail (it S e n)) then [.ref (qs.getD ((n + 1) % qs.length) 0), .ref (qs.getD n 0)] else [.ref (qs.getD n 0), .ref (qs.getD ((n + 1) % qs.length) 0)]
theorem pts_get {K : PySem.W.Frag} {H : Hp} {S : Cell → Bool} {e : Side} {N : Nat} {qs : List Addr} (h : Prs K H qs (rimPts S e N)) : qs.length = N ∧ ∀ n, n < N → qs[n]? = some (qs.getD n 0) ∧ SqT K H (qs.getD n 0) [.int (tail (it S e n)).1, .int (tail (it S e n)).2] := by
  have hl : qs.length = N := by
    have := Paired.length h
    unfold rimPts at this
    rw [List.length_map, List.length_range] at this
    exact this
  refine ⟨hl, fun n hn => ?_⟩
  have g : qs[n]? = some qs[n] := List.getElem?_eq_getElem (by omega)
  have gd : qs.getD n 0 = qs[n] := by rw [List.getD_eq_getElem?_getD, g]; rfl
  rw [gd]
  refine ⟨g, ?_⟩
  obtain ⟨b, hb, hf⟩ := paired_get h g
  unfold rimPts at hb
  rw [List.getElem?_map, List.getElem?_range hn] at hb
  cases hb
  exact hf
/-- the pairs made are the rim's sides -/
theorem insd_pairs {K : PySem.W.Frag} {H : Hp} {S : Cell → Bool} {e : Side} {N : Nat} {qs : List Addr} (p : Per S e N) (h : Prs K H qs (rimPts S e N)) {a : Addr} {as : List Addr} (ha : H a = some (.lst (as.map V.ref))) (hp : Paired (fun (x : Addr) us => H x = some (.tup us)) as ((List.range N).map (pairOfWalk S e qs))) :
    InSd K ((List.range N).map fun n => und (it S e n)) H (.ref a) := by
  obtain ⟨hl, at_⟩ := pts_get h
  have al := Paired.length hp
  rw [List.length_map, List.length_range] at al
  refine ⟨a, (List.range N).map fun n => (V.ref (as.getD n 0), und (it S e n)), rfl, ?_, fun b hb => ?_, ?_⟩
  · rw [List.map_map]
    have : (List.range N).map ((fun x : V × Sd2 => x.1) ∘ fun n => (V.ref (as.getD n 0), und (it S e n))) = as.map V.ref := by
      refine List.ext_getElem? fun i => ?_
      rw [List.getElem?_map, List.getElem?_map]
      by_cases hi : i < N
      · rw [List.getElem?_range hi, List.getElem?_eq_getElem (by omega)]
        show some (V.ref (as.getD i 0)) = _
        rw [List.getD_eq_getElem?_getD, List.getElem?_eq_getElem (by omega)]
        rfl
      · rw [List.getElem?_eq_none (by rw [List.length_range]; omega), List.getElem?_eq_none (by omega)]
        rfl
    rw [this]
    exact sq_of ha
  · obtain ⟨n, hn, rfl⟩ := List.mem_map.mp hb
    have hn := List.mem_range.mp hn
    have g : as[n]? = some as[n] := List.getElem?_eq_getElem (by omega)
    have gd : as.getD n 0 = as[n] := by rw [List.getD_eq_getElem?_getD, g]; rfl
    obtain ⟨us, hu, hf⟩ := paired_get hp g
    rw [List.getElem?_map, List.getElem?_range hn] at hu
    cases hu
    have h1 := (at_ n hn).2
    have h2 := (at_ ((n + 1) % N) (Nat.mod_lt _ (by omega))).2
    rw [tail_mod p hn] at h2
    show Dp K H (.ref (as.getD n 0)) (dSd2 (und (it S e n)))
    rw [gd, und_minmax]
    unfold pairOfWalk at hf
    rw [hl] at hf
    by_cases hlt : ptLt (head (it S e n)) (tail (it S e n))
    · rw [if_pos hlt] at hf ⊢
      exact .tup (st_of hf) (.cons (.tup h2 (.cons (.int _) (.cons (.int _) .nil))) (.cons (.tup h1 (.cons (.int _) (.cons (.int _) .nil))) .nil))
    · rw [if_neg hlt] at hf ⊢
      exact .tup (st_of hf) (.cons (.tup h1 (.cons (.int _) (.cons (.int _) .nil))) (.cons (.tup h2 (.cons (.int _) (.cons (.int _) .nil))) .nil))
  · rw [List.map_map]
    exact List.Perm.refl _
theorem InSd.mono {K : PySem.W.Frag} {us : List Sd2} {H H' : Hp} {v : V} (e : Ex H H') (h : InSd K us H v) : InSd K us H' v := by
  obtain ⟨a, bs, rfl, h1, h2, h3⟩ := h
  exact ⟨a, bs, rfl, ex_l e h1, fun b hb => Dp.mono e (h2 b hb), h3⟩
/-- min of the walked points -/
theorem ed_minFound {K : PySem.W.Frag} {σ : L2.St} {H : Hp} {ta : TE} {f q0 : Addr} {qs : List Addr} {p0 : Pt} {ps : List Pt} (ha : Ev ta σ H (.ref f)) (hf : SqL K H f ((q0 :: qs).map V.ref)) (hp : Prs K H (q0 :: qs) (p0 :: ps)) (hl : ∀ p ∈ ps, ¬ ptLt p p0) : EvD K (tCB (rMinV dPt K) (tCons ta tNil)) σ H (dPt p0) := fun H1 e Q q => ha H1 e _ fun H2 e2 => by
  have e' := e.trans e2
  obtain ⟨zs, z1, z2, z3⟩ := paired_zip (hp.mono e')
  cases zs with
  | nil => cases z1
  | cons z0 zr =>
    have hq0 : q0 = z0.1 := (List.cons.inj z1).1
    have hp0 : p0 = z0.2 := (List.cons.inj z2).1
    have hqs : qs = zr.map (·.1) := (List.cons.inj z1).2
    have hps : ps = zr.map (·.2) := (List.cons.inj z2).2
    have dz : ∀ z ∈ z0 :: zr, Dp K H2 (V.ref z.1) (dPt z.2) := fun z hz => .tup (z3 z hz) (.cons (.int _) (.cons (.int _) .nil))
    have mD : PySem.W.minD (dPt z0.2) ((zr.map fun z => (V.ref z.1, z.2)).map fun b => dPt b.2) = dPt p0 := by
      have := minD_first (p := p0) (ps := ps) hl
      rw [hp0, hps, List.map_map] at this
      rw [List.map_map, hp0]
      exact this
    refine ⟨f, (V.ref z0.1, z0.2), zr.map fun z => (V.ref z.1, z.2), rfl, ?_, fun b hb => ?_, ⟨fun x hx y hy => ?_, fun x hx => ?_⟩, ?_, fun b hb he => ?_⟩
    · have := ex_l e' hf
      rw [hq0, hqs] at this
      rw [List.map_cons, List.map_map]
      rw [List.map_cons, List.map_map] at this
      exact this
    · have hb : b ∈ (z0 :: zr).map fun z => (V.ref z.1, z.2) := hb
      obtain ⟨z, hz, rfl⟩ := List.mem_map.mp hb
      exact dz z hz
    · obtain ⟨b, _, rfl⟩ := List.mem_map.mp hx
      obtain ⟨c, _, rfl⟩ := List.mem_map.mp hy
      exact alike_dPt _ _
    · obtain ⟨b, _, rfl⟩ := List.mem_map.mp hx
      exact fun z => PyData.noConfusion z
    · exact Nat.le_trans (depthAll_pts (fun b : V × Pt => b.2) _) (by decide)
    · have hb : b ∈ (z0 :: zr).map fun z => (V.ref z.1, z.2) := hb
      obtain ⟨z, hz, rfl⟩ := List.mem_map.mp hb
      have : dPt z.2 = dPt p0 := he.trans mD
      refine q _ H2 e2 ?_
      rw [← this]
      exact dz z hz
def t_l_right (K : PySem.W.Frag) (C : Ad) : TS := (tSeq (tAsg (tCB (rListS K) (tCons (tVar 1) tNil)) (gName 2))
      (tSeq (tIfS (tNot (tB (tCall (sp_l_is_ring K) [] E0 (tCons (tVar 0) (tCons (tVar 1) tNil))))) (tRet (tAndV (tCall (sp_l_refused K C) [] E0 (tCons (tVar 0) (tCons (tVar 2) tNil))) (tOp (rEqD K) (tVar 2) (tVar 1)))) tNext)
      (tSeq (tAsg (tCB (rSortV dSd2 K) (tCons (tCall (sp_l_sides K) [] E0 (tCons (tVar 0) (tCons (tVar 1) tNil))) tNil)) (gName 3))
      (tSeq (tFor (iRng1 (tCons (tC (.int 2)) tNil)) (gName 4) (tSeq (tAsg (tCall (sp_walk K C) [] E0 (tCons (tVar 0) (tCons (tVar 2) tNil))) (gName 5))
      (tSeq (tIfS (tOr (tNot (tB (tCB (rIsi K) (tCons (tVar 5) (tCons (tC (.ty "list")) tNil))))) (tOr (tTest (tOp (rNeD K) (tVar 2) (tVar 1))) (tTest (tOp rNe (tCB (rLenS K) (tCons (tVar 5) tNil)) (tCB (rLenS K) (tCons (tVar 3) tNil)))))) (tRet (tC (.bl false))) tNext)
      (tSeq (tAsg (tLc (iZip K (tCons (tVar 5) (tCons (tOp rCat (tSl (rSlL K) (tVar 5) (tPart (tC (.int 1))) tNoPart) (tSl (rSlL K) (tVar 5) tNoPart (tPart (tC (.int 1))))) tNil))) (gTup K 2 (gCons (gName 7) (gCons (gName 8) gNil))) tYes (tTup (tCons (tCB (rMin2V dPt K) (tCons (tVar 7) (tCons (tVar 8) tNil))) (tCons (tCB (rMax2V dPt K) (tCons (tVar 7) (tCons (tVar 8) tNil))) tNil))) [7, 8]) (gName 6))
      (tSeq (tIfS (tOr (tTest (tOp (rNeD K) (tCB (rSortV dSd2 K) (tCons (tVar 6) tNil)) (tVar 3))) (tOr (tTest (tOp (rNeD K) (tOp (rIxL K) (tVar 5) (tC (.int 0))) (tCB (rMinV dPt K) (tCons (tVar 5) tNil)))) (tTest (tOp (rNeD K) (tOp (rIxL K) (tVar 5) (tC (.int 1))) (tTup (tCons (tOp (rIxT K) (tOp (rIxL K) (tVar 5) (tC (.int 0))) (tC (.int 0))) (tCons (tOp oAdd (tOp (rIxT K) (tOp (rIxL K) (tVar 5) (tC (.int 0))) (tC (.int 1))) (tC (.int 1))) tNil))))))) (tRet (tC (.bl false))) tNext)
      (tSeq (tIfS (tNot (tB (tCB (rAll K) (tCons (tLc (iList K (tVar 5)) (gName 9) tYes (tAndV (tCB (rIsi K) (tCons (tVar 9) (tCons (tC (.ty "tuple")) tNil))) (tAndV (tCall (sp_l_whole K) [] E0 (tCons (tOp (rIxT K) (tVar 9) (tC (.int 0))) tNil)) (tCall (sp_l_whole K) [] E0 (tCons (tOp (rIxT K) (tVar 9) (tC (.int 1))) tNil)))) [9]) tNil)))) (tRet (tC (.bl false))) tNext)
      (tDrop (tBM K "list" rAppend (tVar 5) (tCons (tTup (tCons (tC (.int 0)) (tCons (tC (.int 0)) tNil))) tNil)))))))))
      (tRet (tC (.bl true)))))))
theorem pure_l_right {K : PySem.W.Frag} {C : Ad} {vs : List V} {H : Hp} {Q : VK} {E : XK} {D : Ends} (hD : D.rt = Q) {N : List Str} (hN : N.length = 10) (h : sp_l_right K C vs H Q E) : t_l_right K C D (start N vs) H := by
  obtain ⟨g, c, h, w, cs, rfl, hs, gk, hc, ck, q⟩ := h
  subst hD
  rw [start_eq hN]
  change t_l_right K C D [some (.ref g), some (.ref c), none, none, none, none, none, none, none, none] H
  refine q_asgL (i := 2) (el_listS (K := K) (es_of (ev_var rfl) hc)) fun hd H1 hhd e1 h1 => ?_
  have hs1 := ex_t e1 hs
  have hc1 := ex_l e1 hc
  have hd1 : SqL K H1 hd (cs.map V.int) := sq_of h1
  refine q_when (b := !isRing h w cs) (et_not (et_B (ev_l_is_ring (K := K) (est_of (ev_var rfl) hs1) gk (es_of (ev_var rfl) hc1) ck))) (fun hb H2 e2 => ?_) (fun hb H2 e2 => ?_)
  · have hr : isRing h w cs = false := by simpa using hb
    exact s_ret (v := .bl true) (ev_is (ev_andV (a := true) (b := true) (ev_l_refused (K := K) (C := C) (est_of (ev_var rfl) (ex_t e2 hs1)) gk (es_of (ev_var rfl) (ex_l e2 hd1)) ck hr) (fun _ => ev_is (ev_eqD (d := dI cs) (d' := dI cs) (ed_ints (es_of (ev_var rfl) (ex_l e2 hd1))) (ed_ints (es_of (ev_var rfl) (ex_l e2 hc1))) (shaped_ints _) (shaped_ints _)) (by rw [eqv_dI, decide_eq_true rfl]))) rfl) fun H3 e3 => q H3 ((e1.trans e2).trans e3)
  have hr : isRing h w cs = true := by simpa using hb
  obtain ⟨nd, one⟩ := (isRing_iff gk ck).mp hr
  have he : Rim (Sc h w cs) (fstSide w cs) := first_rim gk ck
  obtain ⟨M, per, hw⟩ := walk_ring gk ck hr
  have few := per_few gk he per
  have m2 : 2 ≤ M := by
    have p0 := per.1.1
    rcases Nat.lt_or_ge M 2 with z | z
    · exfalso
      have : M = 1 := by omega
      have e3 := per.1.2
      rw [this] at e3
      have : tail (succ (Sc h w cs) (fstSide w cs)) = tail (fstSide w cs) := congrArg tail e3
      rw [tail_succ] at this
      exact hd_ne_tl _ this
    · exact z
  have hs2 := ex_t e2 hs1
  have hc2 := ex_l e2 hc1
  have hd2 := ex_l e2 hd1
  have leastP : ∀ n, ¬ ptLt (tail (it (Sc h w cs) (fstSide w cs) n)) (tail (fstSide w cs)) := fun n z => by
    have := first_least gk ck (it_rim he n)
    unfold ptLe at this
    unfold ptLt at z
    omega
  have hx1 : tail (it (Sc h w cs) (fstSide w cs) 1) = ((tail (fstSide w cs)).1, (tail (fstSide w cs)).2 + 1) := by
    show tail (succ (Sc h w cs) (fstSide w cs)) = _
    rw [tail_succ]
    rfl
  have perm : ∀ vs, IsRim (Sc h w cs) vs → ((List.range M).map fun j => und (it (Sc h w cs) (fstSide w cs) j)).Perm vs := fun vs ir => (rim_pairs gk ck hr ir per).2
  refine q_asgD (i := 3) (d := .list ((sortSd ((List.range M).map fun j => und (it (Sc h w cs) (fstSide w cs) j))).map dSd2)) (ed_sortSd (K := K) (fun H3 e3 Q' q' => ep_l_sides (K := K) (ea_cons (ev_var rfl) (ea_cons (ev_var rfl) ea_nil)) hs2 gk hc2 ck H3 e3 Q' fun v H4 e4 z => q' v H4 e4 (insd_rim z perm))) fun v H3 e3 hv => ?_
  generalize hus : ((List.range M).map fun j => und (it (Sc h w cs) (fstSide w cs) j)) = us at *
  have ul : us.length = M := by rw [← hus, List.length_map, List.length_range]
  have hs3 := ex_t e3 hs2
  have hc3 := ex_l e3 hc2
  have hd3 := ex_l e3 hd2
  refine q_forR1 (j := 4) (n := 2) (ea_cons ev_c ea_nil) ⟨by decide, by decide⟩ (fun i σ' H' => ∃ y4 y5 y6, σ' = [some (.ref g), some (.ref c), some (.ref hd), some v, y4, y5, y6, none, none, none] ∧ Ex H3 H') (fun H4 e4 => ⟨_, _, _, rfl, e4⟩) (fun i σ' H4 hi hP => ?_) (fun σ' H4 hP => ?_)
  · obtain ⟨y4, y5, y6, rfl, e4⟩ := hP
    have hs4 := ex_t e4 hs3
    have hc4 := ex_l e4 hc3
    have hd4 := ex_l e4 hd3
    have hv4 := Dp.mono e4 hv
    refine q_asgP (i := 5) (ep_walk (K := K) (C := C) (est_of (ev_var rfl) hs4) gk (es_of (ev_var rfl) hd4) ck hr hw) fun u H5 e5 hu => ?_
    obtain ⟨f, qs, rfl, hf, h5, hq⟩ := hu
    obtain ⟨ql, qat⟩ := pts_get hq
    have f5 : SqL K H5 f (qs.map V.ref) := sq_of h5
    have hv5 := Dp.mono e5 hv4
    refine q_when (b := false) (et_is (et_or (et_not (et_B (ev_isiList (K := K) (n := "list") (ev_var rfl) ⟨ty_list f5, by decide⟩))) (fun _ => et_or (et_test (ev_neD (ed_ints (es_of (ev_var rfl) (ex_l e5 hd4))) (ed_ints (es_of (ev_var rfl) (ex_l e5 hc4))) (shaped_ints _) (shaped_ints _))) (fun _ => et_test (ev_op (x := .int (M : Int)) (y := .int (M : Int)) (ev_is (ev_lenS (K := K) (es_of (ev_var rfl) f5)) (by rw [List.length_map, ql])) (ev_is (ev_lenDp (K := K) (ev_var rfl) hv5) (by rw [List.length_map, sort_len, ul])) (rv_ne rfl))))) (by rw [eqv_dI, decide_eq_true rfl, decide_eq_true rfl]; rfl)) (fun z => nomatch z) (fun _ H6 e6 => ?_)
    have f6 := ex_l e6 f5
    have hq6 : Prs K H6 qs (rimPts (Sc h w cs) (fstSide w cs) M) := hq.mono e6
    obtain ⟨_, qat6⟩ := pts_get hq6
    have slA := el_sl (K := K) (te := tVar 5) (σ := [some (.ref g), some (.ref c), some (.ref hd), some v, some (.int (i : Int)), some (.ref f), y6, none, none, none]) (H := H6) (lo := some 1) (hi := none) (ev_var (i := 5) rfl) (eo_some ev_c) eo_none f6
    have slB := el_sl (K := K) (te := tVar 5) (σ := [some (.ref g), some (.ref c), some (.ref hd), some v, some (.int (i : Int)), some (.ref f), y6, none, none, none]) (H := H6) (lo := none) (hi := some 1) (ev_var (i := 5) rfl) eo_none (eo_some ev_c) f6
    rw [cut1] at slA
    rw [show (some (1 : Int)) = some ((1 : Nat) : Int) from rfl, cutTo] at slB
    have cat := el_catLL slA slB (by rw [List.length_drop, List.length_take, List.length_map]; omega)
    refine q_asgP (i := 6) (ep_lcZU (K := K) (i := 7) (j := 8) (vs := [7, 8]) (pairOfWalk (Sc h w cs) (fstSide w cs) qs) (es_of (ev_var rfl) f6) (es_new cat) (by rw [List.length_append, List.length_drop, List.length_take, List.length_map]; omega) (by rw [List.length_map]; omega) (fun _ _ => rfl) (fun n x y H7 e7 hx hy => ?_)) fun u H7 e7 hu => ?_
    · have hn : n < M := by
        have := (List.getElem?_eq_some_iff.mp hx).1
        rw [List.length_map] at this
        omega
      rw [List.getElem?_map, (qat6 n hn).1] at hx
      cases hx
      rw [rot_at (by rw [List.length_map]; omega), List.length_map, ql, List.getElem?_map, (qat6 ((n + 1) % M) (Nat.mod_lt _ (by omega))).1] at hy
      cases hy
      have t1 := ex_t e7 (qat6 n hn).2
      have t2 := ex_t e7 (qat6 ((n + 1) % M) (Nat.mod_lt _ (by omega))).2
      rw [tail_mod per hn] at t2
      have ne := (hd_ne_tl (it (Sc h w cs) (fstSide w cs) n)).symm
      have mn := ev_min2 (K := K) (σ := [some (.ref g), some (.ref c), some (.ref hd), some v, some (.int (i : Int)), some (.ref f), y6, some (.ref (qs.getD n 0)), some (.ref (qs.getD ((n + 1) % M) 0)), none]) (H := H7) (ta := tVar 7) (tb := tVar 8) (ev_var rfl) (ev_var rfl) t1 t2 ne
      have mx := ev_max2P (K := K) (σ := [some (.ref g), some (.ref c), some (.ref hd), some v, some (.int (i : Int)), some (.ref f), y6, some (.ref (qs.getD n 0)), some (.ref (qs.getD ((n + 1) % M) 0)), none]) (H := H7) (ta := tVar 7) (tb := tVar 8) (ev_var rfl) (ev_var rfl) t1 t2 ne
      have tu := eu_tup (ea_cons mn (ea_cons mx ea_nil)) (by simp)
      have eg : pairOfWalk (Sc h w cs) (fstSide w cs) qs n = [.ref (if ptLt (head (it (Sc h w cs) (fstSide w cs) n)) (tail (it (Sc h w cs) (fstSide w cs) n)) then qs.getD ((n + 1) % M) 0 else qs.getD n 0), .ref (if ptLt (head (it (Sc h w cs) (fstSide w cs) n)) (tail (it (Sc h w cs) (fstSide w cs) n)) then qs.getD n 0 else qs.getD ((n + 1) % M) 0)] := by
        unfold pairOfWalk
        rw [ql]
        split <;> rfl
      rw [eg]
      exact tu
    obtain ⟨pr, as, rfl, _, h7, hp7⟩ := hu
    rw [List.length_map, ql] at hp7
    have ins : InSd K us H7 (.ref pr) := by
      rw [← hus]
      exact insd_pairs per (hq6.mono e7) h7 hp7
    have f7 := ex_l e7 f6
    have hv7 := Dp.mono (e6.trans e7) hv5
    have hq7 := hq6.mono e7
    obtain ⟨_, qat7⟩ := pts_get hq7
    have ix : ∀ {n : Nat}, n < M → Ev (tOp (rIxL K) (tVar 5) (tC (.int (n : Int)))) [some (.ref g), some (.ref c), some (.ref hd), some v, some (.int (i : Int)), some (.ref f), some (.ref pr), none, none, none] H7 (.ref (qs.getD n 0)) := fun {n} hn => ev_ixS (K := K) (es_of (ev_var rfl) f7) ev_c (atI_nat (by rw [List.getElem?_map, (qat7 n hn).1]; rfl))
    have dix : ∀ {n : Nat}, n < M → EvD K (tOp (rIxL K) (tVar 5) (tC (.int (n : Int)))) [some (.ref g), some (.ref c), some (.ref hd), some v, some (.int (i : Int)), some (.ref f), some (.ref pr), none, none, none] H7 (dPt (tail (it (Sc h w cs) (fstSide w cs) n))) := fun {n} hn => ed_of (ix hn) (.tup (qat7 n hn).2 (.cons (.int _) (.cons (.int _) .nil)))
    have t0 := (qat7 0 (by omega)).2
    have fx : ∀ {k : Nat} {z : V}, atI [V.int (tail (fstSide w cs)).1, V.int (tail (fstSide w cs)).2] (k : Int) = some z → Ev (tOp (rIxT K) (tOp (rIxL K) (tVar 5) (tC (.int 0))) (tC (.int (k : Int)))) [some (.ref g), some (.ref c), some (.ref hd), some v, some (.int (i : Int)), some (.ref f), some (.ref pr), none, none, none] H7 z := fun {k z} hz => ev_ixT (K := K) (est_of (ix (n := 0) (by omega)) t0) ev_c hz
    have mf : EvD K (tCB (rMinV dPt K) (tCons (tVar 5) tNil)) [some (.ref g), some (.ref c), some (.ref hd), some v, some (.int (i : Int)), some (.ref f), some (.ref pr), none, none, none] H7 (dPt (tail (fstSide w cs))) := by
      have hq8 := hq7
      obtain ⟨M', rfl⟩ : ∃ M', M = M' + 1 := ⟨M - 1, by omega⟩
      unfold rimPts at hq8
      rw [List.range_succ_eq_map, List.map_cons] at hq8
      cases qs with
      | nil => simp at ql
      | cons q0 qr =>
        refine ed_minFound (K := K) (ev_var rfl) f7 hq8 fun p hp => ?_
        rw [List.map_map] at hp
        obtain ⟨n, _, rfl⟩ := List.mem_map.mp hp
        exact leastP _
    refine q_when (b := false) (et_is (et_or (et_test (ev_neD (ed_sortSd (K := K) (us := us) (fun H8 e8 Q' q' => (ev_var (H := H7) (i := 6) (v := .ref pr) rfl) H8 e8 Q' fun H9 e9 => q' _ H9 e9 (ins.mono (e8.trans e9)))) (ed_of (ev_var rfl) hv7) (shaped_sds _) (shaped_sds _))) (fun _ => et_or (et_test (ev_neD (dix (n := 0) (by omega)) mf (shaped_dP _ _) (shaped_dP _ _))) (fun _ => et_test (ev_neD (dix (n := 1) (by omega)) (ed_pair (K := K) (a := (tail (fstSide w cs)).1) (b := (tail (fstSide w cs)).2 + 1) (fx (k := 0) rfl) (ev_op (x := .int (tail (fstSide w cs)).2) (y := .int 1) (fx (k := 1) rfl) ev_c rv_I0)) (shaped_dP _ _) (shaped_dP _ _))))) (by
      have e1' : PyData.eqv (dPt (tail (it (Sc h w cs) (fstSide w cs) 1))) (dP (tail (fstSide w cs)).1 ((tail (fstSide w cs)).2 + 1)) = true := by
        rw [hx1]
        have := eqv_dPt ((tail (fstSide w cs)).1, (tail (fstSide w cs)).2 + 1) ((tail (fstSide w cs)).1, (tail (fstSide w cs)).2 + 1)
        rw [decide_eq_true rfl] at this
        exact this
      have e2' : PyData.eqv (dPt (tail (it (Sc h w cs) (fstSide w cs) 0))) (dPt (tail (fstSide w cs))) = true := by
        show PyData.eqv (dPt (tail (fstSide w cs))) (dPt (tail (fstSide w cs))) = true
        rw [eqv_dPt, decide_eq_true rfl]
      rw [eqv_sds_self, e1', e2']
      rfl)) (fun z => nomatch z) (fun _ H8 e8 => ?_)
    have allE := el_lcG (K := K) (σ := [some (.ref g), some (.ref c), some (.ref hd), some v, some (.int (i : Int)), some (.ref f), some (.ref pr), none, none, none]) (H := H8) (tl := tVar 5) (zs := List.range M) (emb := fun n => V.ref (qs.getD n 0)) (j := 9) (vs := [9]) (t := tYes) (te := tAndV (tCB (rIsi K) (tCons (tVar 9) (tCons (tC (.ty "tuple")) tNil))) (tAndV (tCall (sp_l_whole K) [] E0 (tCons (tOp (rIxT K) (tVar 9) (tC (.int 0))) tNil)) (tCall (sp_l_whole K) [] E0 (tCons (tOp (rIxT K) (tVar 9) (tC (.int 1))) tNil)))) (fun _ => true) (fun _ => V.bl true) (es_of (ev_var rfl) (by
        have : (List.range M).map (fun n => V.ref (qs.getD n 0)) = qs.map V.ref := by
          refine List.ext_getElem? fun k => ?_
          rw [List.getElem?_map, List.getElem?_map]
          by_cases hk : k < M
          · rw [List.getElem?_range hk, (qat7 k hk).1]
            rfl
          · rw [List.getElem?_eq_none (by rw [List.length_range]; omega), List.getElem?_eq_none (by omega)]
            rfl
        rw [this]
        exact ex_l e8 f7)) (by rw [List.length_range]; omega) (fun _ => rfl) (fun _ _ _ _ => et_yes) (fun n H9 e9 hn _ => by
        have tn := ex_t (e8.trans e9) (qat7 n (List.mem_range.mp hn)).2
        exact ev_is (ev_andV (a := true) (b := true) (ev_is (ev_isiTuple (K := K) (n := "tuple") (ev_var rfl) ⟨ty_tuple tn, by decide⟩) rfl) (fun _ => ev_is (ev_andV (a := true) (b := true) (ev_is (ev_is_whole (K := K) (ea_cons (ev_ixT (K := K) (est_of (ev_var rfl) tn) ev_c (atI_nat (j := 0) rfl)) ea_nil) (known_int _)) rfl) (fun _ => ev_is (ev_is_whole (K := K) (ea_cons (ev_ixT (K := K) (est_of (ev_var rfl) tn) ev_c (atI_nat (j := 1) rfl)) ea_nil) (known_int _)) rfl)) rfl)) rfl)
    have allV := ev_allS (K := K) (bs := ((List.range M).filter fun _ => true).map fun _ => true) (es_new (by rw [List.map_map]; exact allE))
    have allT : (((List.range M).filter fun _ => true).map fun _ => true).all id = true := by
      rw [List.all_eq_true]
      intro x hx
      obtain ⟨_, _, rfl⟩ := List.mem_map.mp hx
      rfl
    rw [allT] at allV
    refine q_when (b := false) (et_not (et_B allV)) (fun z => nomatch z) (fun _ H9 e9 => ?_)
    have f9 := e9 _ _ (e8 _ _ (e7 _ _ (e6 _ _ h5)))
    exact s_appU (K := K) (l := f) f9 (ev_var rfl) (eu_tup (ea_cons ev_c (ea_cons ev_c ea_nil)) (by simp)) (by rw [List.length_map]; omega) fun p' Ha hp' ea hb' => ⟨_, _, _, rfl, e4.trans (Ex.mut (((((e5.trans e6).trans e7).trans e8).trans e9).trans ea) hf)⟩
  · obtain ⟨y4, y5, y6, rfl, e4⟩ := hP
    exact s_ret ev_c fun H5 e5 => q H5 (((e1.trans e2).trans e3).trans (e4.trans e5))

/-! ### _law_grown (k03) -/
open Sd.J
def sortI (ns : List Int) : List Int := ns.mergeSort fun a b => decide (a ≤ b)
theorem el_sortI {K : PySem.W.Frag} {σ : L2.St} {H : Hp} {ta : TE} {ns : List Int} (h : EvS K ta σ H (ns.map V.int)) : EvL (tCB (rSortV PyData.int K) (tCons ta tNil)) σ H ((sortI ns).map V.int) := fun H1 e Q q => h H1 e _ fun a H2 e2 ha => by
  refine ⟨a, ns.map fun n => (V.int n, n), rfl, ?_, fun c hc => ?_, ?_, ?_, fun c hc => ?_, fun s hs => ?_⟩
  · rw [List.map_map]
    exact ha
  · obtain ⟨b, hm, rfl⟩ := List.mem_map.mp hc
    exact .int b
  · exact PySem.W.AllAlike.of (enc := fun b : V × Int => PyData.int b.2) fun b b' => by simp [PySem.W.alike]
  · exact PySem.W.Sortable.others (enc := fun b : V × Int => PyData.int b.2) fun b => ⟨fun z => PyData.noConfusion z, fun xs z => PyData.noConfusion z⟩
  · show (PyData.int c.2).depth ≤ 40
    simp [PyData.depth]
  · have e3 : ((ns.map fun n => (V.int n, n)).mergeSort (PySem.W.dataLe false fun b => PyData.int b.2)).map (·.1) = (sortI ns).map V.int := by
      rw [PySem.W.dataLe_int (β := V × Int) (fun b => b.2), ← List.map_mergeSort (r := fun p q : Int => decide (p ≤ q)) (f := fun n : Int => (V.int n, n)) (fun _ _ _ _ => rfl), List.map_map]
      rfl
    rw [e3]
    exact q _ _ (fresh_back e2 hs) (e2.trans (Ex.new hs)) upd_same
theorem sortI_ok {h w : Nat} {ns : List Int} (nd : ns.Nodup) (hi : ∀ x ∈ ns, 0 ≤ x ∧ x < (h : Int) * w) (hn : ns ≠ []) : COk h w (sortI ns) := by
  have p : (sortI ns).Perm ns := List.mergeSort_perm ns _
  refine ⟨fun z => hn (by rw [z] at p; exact List.nil_perm.mp p), fun x hx => hi x (p.mem_iff.mp hx), ?_⟩
  have s1 : (sortI ns).Pairwise (fun a b => decide (a ≤ b) = true) := List.pairwise_mergeSort (fun a b c h1 h2 => by
    simp only [decide_eq_true_eq] at h1 h2 ⊢
    omega) (fun a b => by
    simp only [Bool.or_eq_true, decide_eq_true_eq]
    omega) ns
  have nd2 : (sortI ns).Nodup := p.nodup_iff.mpr nd
  have := List.pairwise_and_iff.mpr ⟨s1, nd2⟩
  refine this.imp fun {a b} hab => ?_
  have h1 := of_decide_eq_true hab.1
  have h2 := hab.2
  omega
theorem beside_in {h w : Nat} (gk : GOk h w) {x o : Int} (h0 : 0 ≤ x) (h1 : x < (h : Int) * w) (ho : o ∈ lBeside h w x) : 0 ≤ o ∧ o < (h : Int) * w := by
  rw [lBeside_eq gk h0 h1] at ho
  obtain ⟨s, hs, rfl⟩ := (mem_beside gk h0 h1).mp ho
  exact idx_range gk hs
theorem el_cat1 {K : PySem.W.Frag} {σ : L2.St} {H : Hp} {ta tb : TE} {a : Addr} {xs ys : List V} (hl : H a = some (.lst xs)) (ha : Ev ta σ H (.ref a)) (hb : EvL tb σ H ys) (hz : xs.length + ys.length ≤ 1000) : EvL (tOp rCat ta tb) σ H (xs ++ ys) := fun H1 e Q q =>
  ha H1 e _ fun H2 e2 => hb H2 (e.trans e2) _ fun r H3 hr e3 h3 => ⟨a, r, xs, ys, rfl, rfl, e3 _ _ (e2 _ _ (e _ _ hl)), h3, sz_of (by omega), fun s hs => q s _ (fresh_back (e2.trans e3) hs) ((e2.trans e3).trans (Ex.new hs)) upd_same⟩
def sp_l_grown (K : PySem.W.Frag) : Sp := fun vs H Q _ => ∃ a g b h w ns, vs = [.ref a, .int b, .ref g] ∧ SqL K H a ((ns : List Int).map V.int) ∧ ScriptOk ns ∧ 0 ≤ b ∧ b ≤ 100 ∧ SqT K H g [.int ((h : Nat) : Int), .int ((w : Nat) : Int)] ∧ GOk h w ∧ RetP (fun H1 v H2 => ∃ p cs, v = .ref p ∧ H1 p = none ∧ H2 p = some (.lst ((cs : List Int).map V.int)) ∧ COk h w cs) H Q
theorem mod_nat {n : Int} {m : Nat} (hm : 0 < m) : ∃ k : Nat, k < m ∧ n % (m : Int) = (k : Int) := by
  have h0 := Int.emod_nonneg n (b := (m : Int)) (by omega)
  have h1 := Int.emod_lt_of_pos n (b := (m : Int)) (by omega)
  exact ⟨(n % (m : Int)).toNat, by omega, (Int.toNat_of_nonneg h0).symm⟩
def t_l_grown (K : PySem.W.Frag) : TS := (tSeq (tAsg (tIf (tTest (tOp (rNeD K) (tVar 0) (tLst tNil))) (tSl (rSlL K) (tVar 0) tNoPart (tPart (tC (.int 63)))) (tLst (tCons (tC (.int 5)) tNil))) (gName 3))
      (tSeq (tAsg (tLst (tCons (tOp oMod (tCB (rSum K) (tCons (tVar 3) tNil)) (tOp oMul (tOp (rIxT K) (tVar 2) (tC (.int 0))) (tOp (rIxT K) (tVar 2) (tC (.int 1))))) tNil)) (gName 4))
      (tSeq (tFor (iRng1 (tCons (tC (.int 14)) tNil)) (gName 5) (tSeq (tAsg (tOp oDiv (tCall (sp_l_number K) [] E0 (tCons (tOp (rIxL K) (tVar 3) (tOp oMod (tOp oAdd (tVar 5) (tVar 1)) (tCB (rLenS K) (tCons (tVar 3) tNil)))) (tCons (tOp oAdd (tVar 5) (tVar 1)) (tCons (tC (.int 9)) tNil)))) (tC (.int 3))) (gName 6))
      (tSeq (tAsg (tCall (sp_l_beside K) [] E0 (tCons (tVar 2) (tCons (tOp (rIxL K) (tVar 4) (tOp oMod (tVar 6) (tCB (rLenS K) (tCons (tVar 4) tNil)))) tNil))) (gName 7))
      (tIfS (tTest (tOp (rNeD K) (tVar 7) (tLst tNil))) (tSeq (tAsg (tOp (rIxL K) (tVar 7) (tOp oMod (tOp oDiv (tVar 6) (tC (.int 40))) (tCB (rLenS K) (tCons (tVar 7) tNil)))) (gName 8))
      (tIfS (tAnd (tTest (tOp (rIn K true) (tVar 8) (tVar 4))) (tB (tCall (sp_l_is_ring K) [] E0 (tCons (tVar 2) (tCons (tCB (rSortV PyData.int K) (tCons (tOp rCat (tVar 4) (tLst (tCons (tVar 8) tNil))) tNil)) tNil))))) (tAsg (tOp rCat (tVar 4) (tLst (tCons (tVar 8) tNil))) (gName 4)) tNext)) tNext))))
      (tRet (tCB (rSortV PyData.int K) (tCons (tVar 4) tNil))))))
theorem pure_l_grown {K : PySem.W.Frag} {vs : List V} {H : Hp} {Q : VK} {E : XK} {D : Ends} (hD : D.rt = Q) {N : List Str} (hN : N.length = 9) (h : sp_l_grown K vs H Q E) : t_l_grown K D (start N vs) H := by
  obtain ⟨a, g, b, h, w, ns, rfl, hn, sk, b0, b1, hs, gk, q⟩ := h
  subst hD
  rw [start_eq hN]
  change t_l_grown K D [some (.ref a), some (.int b), some (.ref g), none, none, none, none, none, none] H
  obtain ⟨g1, g2, g3, g4⟩ := id gk
  have hwl := hw_le gk
  obtain ⟨dk, dl⟩ := drawn_ok sk
  have cast : ((h * w : Nat) : Int) = (h : Int) * w := Int.natCast_mul h w
  have hwp : 1 ≤ h * w := Nat.mul_pos g1 g3
  refine q_asgL (i := 3) (xs := (lDrawn ns).map V.int) (el_if (b := !decide (ns = [])) (et_is (et_test (ev_neD (ed_ints (es_of (ev_var rfl) hn)) ed_nil (shaped_ints ns) shaped_nil)) (by rw [eqv_ints_nil])) (fun hb => ?_) (fun hb => ?_)) fun d H1 hd e1 h1 => ?_
  · have hb' : ¬ ns = [] := by simpa using hb
    have := el_sl (K := K) (te := tVar 0) (σ := [some (.ref a), some (.int b), some (.ref g), none, none, none, none, none, none]) (H := H) (hi := some 63) (ev_var (i := 0) rfl) eo_none (eo_some ev_c) hn
    rw [show (some (63 : Int)) = some ((63 : Nat) : Int) from rfl, cutTo, ← List.map_take] at this
    rw [show lDrawn ns = ns.take 63 from if_neg hb']
    exact this
  · have hb' : ns = [] := by simpa using hb
    rw [show lDrawn ns = [5] from if_pos hb']
    exact el_lst (ea_cons ev_c ea_nil) (by simp)
  have hd1 : SqL K H1 d ((lDrawn ns).map V.int) := sq_of h1
  have hs1 := ex_t e1 hs
  refine q_asgL (i := 4) (xs := [.int ((lDrawn ns).sum % ((h : Int) * w))]) (el_lst (ea_cons (ev_op (x := .int (lDrawn ns).sum) (y := .int ((h : Int) * w)) (by walk_at "ev") (by walk_at "ev") (rv_I (by show (0 : Int) < _; omega))) ea_nil) (by simp)) fun p0 H2 hp0 e2 h2 => ?_
  have hs2 := ex_t e2 hs1
  have hd2 := ex_l e2 hd1
  have f0 := Int.emod_nonneg (lDrawn ns).sum (b := (h : Int) * w) (by omega)
  have f1 := Int.emod_lt_of_pos (lDrawn ns).sum (b := (h : Int) * w) (by omega)
  refine q_forR1 (j := 5) (n := 14) (ea_cons ev_c ea_nil) ⟨by decide, by decide⟩ (fun i σ' H' => ∃ fa fs y5 y6 y7 y8, σ' = [some (.ref a), some (.int b), some (.ref g), some (.ref d), some (.ref fa), y5, y6, y7, y8] ∧ Ex H1 H' ∧ Ex H2 H' ∧ H' fa = some (.lst ((fs : List Int).map V.int)) ∧ fs.Nodup ∧ (∀ x ∈ fs, 0 ≤ x ∧ x < (h : Int) * w) ∧ fs ≠ [] ∧ fs.length ≤ i + 1)
    (fun H3 e3 => ⟨p0, [(lDrawn ns).sum % ((h : Int) * w)], none, none, none, none, rfl, e2.trans e3, e3, e3 _ _ h2, by simp, fun x hx => by
      have : x = (lDrawn ns).sum % ((h : Int) * w) := by simpa using hx
      rw [this]
      exact ⟨f0, f1⟩, by simp, by simp⟩) (fun i σ' H' hi hP => ?_) (fun σ' H' hP => ?_)
  · obtain ⟨fa, fs, y5, y6, y7, y8, rfl, e3, e3', hfa, nd, hin, hne, hlen⟩ := hP
    have hi' : i < 14 := by omega
    have hd3 := ex_l e3' hd2
    have hs3 := ex_t e3' hs2
    have ll : ((lDrawn ns).map V.int).length = (lDrawn ns).length := List.length_map ..
    obtain ⟨k1, hk1, ek1⟩ := mod_nat (n := (i : Int) + b) (m := (lDrawn ns).length) (by omega)
    have g1' : (lDrawn ns)[k1]? = some (lDrawn ns)[k1] := List.getElem?_eq_getElem hk1
    have mem : (lDrawn ns)[k1] ∈ lDrawn ns := List.getElem_mem _
    generalize (lDrawn ns)[k1] = dn at g1' mem
    have item : Ev (tOp (rIxL K) (tVar 3) (tOp oMod (tOp oAdd (tVar 5) (tVar 1)) (tCB (rLenS K) (tCons (tVar 3) tNil)))) [some (.ref a), some (.int b), some (.ref g), some (.ref d), some (.ref fa), some (.int (i : Int)), y6, y7, y8] H' (.int dn) := by
      refine ev_ixS (K := K) (i := (k1 : Int)) (es_of (ev_var rfl) hd3) (ev_is (ev_op (x := .int ((i : Int) + b)) (y := .int ((lDrawn ns).length : Int)) (by walk_at "ev") (ev_is (ev_lenS (es_of (ev_var rfl) hd3)) (by rw [ll])) (rv_I (by show (0 : Int) < _; omega))) (congrArg V.int ek1)) (atI_nat (by rw [List.getElem?_map, g1']; rfl))
    have num := ev_l_number (K := K) (E := E0) (ea_cons item (ea_cons (ta := tOp oAdd (tVar 5) (tVar 1)) (x := .int ((i : Int) + b)) (by walk_at "ev") (ea_cons (ta := tC (.int 9)) (x := .int 9) ev_c ea_nil))) (bits_mem dk mem) (by omega) (by omega) (Bits.small (by decide))
    refine q_asg (i := 6) (ev_op (y := .int 3) num ev_c (rv_I ⟨by decide, by decide⟩)) fun H4 e4 => ?_
    have hfa4 := e4 _ _ hfa
    have hs4 := ex_t e4 hs3
    have fp := List.length_pos_iff.mpr hne
    have sfa : SqL K H4 fa (fs.map V.int) := sq_of hfa4
    generalize lNumber dn ((i : Int) + b) 9 / 3 = nn
    obtain ⟨k2, hk2, ek2⟩ := mod_nat (n := nn) (m := fs.length) fp
    have g2' : fs[k2]? = some fs[k2] := List.getElem?_eq_getElem hk2
    have mem2 : fs[k2] ∈ fs := List.getElem_mem _
    generalize fs[k2] = fx at g2' mem2
    refine q_asgL (i := 7) (el_l_beside (K := K) (x := fx) (ea_cons (ev_var rfl) (ea_cons (ev_ixS (K := K) (i := (k2 : Int)) (es_of (ev_var rfl) sfa) (ev_is (ev_op (x := .int nn) (y := .int (fs.length : Int)) (ev_var rfl) (ev_is (ev_lenS (es_of (ev_var rfl) sfa)) (by rw [List.length_map])) (rv_I (by show (0 : Int) < _; omega))) (congrArg V.int ek2)) (atI_nat (by rw [List.getElem?_map, g2']; rfl))) ea_nil)) hs4 gk) fun nr H5 hnr e5 h5 => ?_
    have bi := fun o => beside_in gk (hin fx mem2).1 (hin fx mem2).2 (o := o)
    have bl := lBeside_len h w fx
    generalize lBeside h w fx = bs at h5 bi bl
    have snr : SqL K H5 nr (bs.map V.int) := sq_of h5
    refine s_when (b := !decide (bs = [])) (et_is (et_test (ev_neD (ed_ints (es_of (ev_var rfl) snr)) ed_nil (shaped_ints bs) shaped_nil)) (by rw [eqv_ints_nil])) (fun hb H6 e6 => ?_) (fun hb H6 e6 => ?_)
    · have hb' : bs ≠ [] := by simpa using hb
      have bp := List.length_pos_iff.mpr hb'
      obtain ⟨k3, hk3, ek3⟩ := mod_nat (n := nn / 40) (m := bs.length) bp
      have g3' : bs[k3]? = some bs[k3] := List.getElem?_eq_getElem hk3
      have mem3 : bs[k3] ∈ bs := List.getElem_mem _
      generalize bs[k3] = ce at g3' mem3
      have snr6 := ex_l e6 snr
      refine q_asg (i := 8) (v := .int ce) (ev_ixS (K := K) (i := (k3 : Int)) (es_of (ev_var rfl) snr6) (ev_is (ev_op (x := .int (nn / 40)) (y := .int (bs.length : Int)) (ev_op (x := .int nn) (y := .int 40) (ev_var rfl) ev_c (rv_I ⟨by decide, by decide⟩)) (ev_is (ev_lenS (es_of (ev_var rfl) snr6)) (by rw [List.length_map])) (rv_I (by show (0 : Int) < _; omega))) (congrArg V.int ek3)) (atI_nat (by rw [List.getElem?_map, g3']; rfl))) fun H7 e7 => ?_
      have e47 := (e5.trans e6).trans e7
      have hfa7 := e47 _ _ hfa4
      have sfa7 : SqL K H7 fa (fs.map V.int) := sq_of hfa7
      have hs7 := ex_t e47 hs4
      have cat : EvL (tOp rCat (tVar 4) (tLst (tCons (tVar 8) tNil))) [some (.ref a), some (.int b), some (.ref g), some (.ref d), some (.ref fa), some (.int (i : Int)), some (.int nn), some (.ref nr), some (.int ce)] H7 ((fs ++ [ce]).map V.int) := by
        rw [List.map_append]
        exact el_cat1 (K := K) hfa7 (ev_var rfl) (el_lst (ea_cons (ev_var rfl) ea_nil) (by simp)) (by rw [List.length_map]; simp; omega)
      have new : ce ∉ fs → (fs ++ [ce]).Nodup ∧ (∀ x ∈ fs ++ [ce], 0 ≤ x ∧ x < (h : Int) * w) ∧ fs ++ [ce] ≠ [] := fun hce => by
        refine ⟨List.nodup_append.mpr ⟨nd, by simp, fun x hx y hy => ?_⟩, fun x hx => ?_, by simp⟩
        · have : y = ce := by simpa using hy
          rw [this]
          exact fun z => hce (z ▸ hx)
        · rcases List.mem_append.mp hx with hx | hx
          · exact hin x hx
          · have : x = ce := by simpa using hx
            rw [this]
            exact bi ce mem3
      have tst : ∃ t, EvT (tAnd (tTest (tOp (rIn K true) (tVar 8) (tVar 4))) (tB (tCall (sp_l_is_ring K) [] E0 (tCons (tVar 2) (tCons (tCB (rSortV PyData.int K) (tCons (tOp rCat (tVar 4) (tLst (tCons (tVar 8) tNil))) tNil)) tNil))))) [some (.ref a), some (.int b), some (.ref g), some (.ref d), some (.ref fa), some (.int (i : Int)), some (.int nn), some (.ref nr), some (.int ce)] H7 t ∧ (t = true → ce ∉ fs) := by
        by_cases hce : ce ∈ fs
        · exact ⟨false, et_is (et_and (a := false) (b := false) (et_is (et_test (ev_notIn (K := K) (ev_var rfl) (es_of (ev_var rfl) sfa7))) (by rw [decide_eq_true hce]; rfl)) (fun z => nomatch z)) rfl, fun z => nomatch z⟩
        · obtain ⟨n1, n2, n3⟩ := new hce
          exact ⟨isRing h w (sortI (fs ++ [ce])), et_is (et_and (a := true) (b := isRing h w (sortI (fs ++ [ce]))) (et_is (et_test (ev_notIn (K := K) (ev_var rfl) (es_of (ev_var rfl) sfa7))) (by rw [decide_eq_false hce]; rfl)) (fun _ => et_B (ev_l_is_ring (K := K) (est_of (ev_var rfl) hs7) gk (es_new (el_sortI (K := K) (es_new cat))) (sortI_ok n1 n2 n3)))) rfl, fun _ => hce⟩
      obtain ⟨t, tst, ht⟩ := tst
      refine s_when tst (fun hb2 H8 e8 => ?_) (fun hb2 H8 e8 => ?_)
      · obtain ⟨n1, n2, n3⟩ := new (ht hb2)
        exact s_asgL (i := 4) (cat.mono e8) fun p9 H9 hp9 e9 h9 => ⟨p9, fs ++ [ce], _, _, _, _, rfl, (((e3.trans e4).trans e47).trans e8).trans e9, (((e3'.trans e4).trans e47).trans e8).trans e9, h9, n1, n2, n3, by rw [List.length_append]; simp; omega⟩
      · exact ⟨fa, fs, _, _, _, _, rfl, ((e3.trans e4).trans e47).trans e8, ((e3'.trans e4).trans e47).trans e8, e8 _ _ hfa7, nd, hin, hne, by omega⟩
    · exact ⟨fa, fs, _, _, _, _, rfl, ((e3.trans e4).trans e5).trans e6, ((e3'.trans e4).trans e5).trans e6, e6 _ _ (e5 _ _ hfa4), nd, hin, hne, by omega⟩
  · obtain ⟨fa, fs, y5, y6, y7, y8, rfl, e3, e3', hfa, nd, hin, hne, hlen⟩ := hP
    refine s_retL (el_sortI (K := K) (es_of (ev_var rfl) (sq_of hfa))) fun p4 H4 hp4 e4 h4 => q _ H4 ((e1.trans e3).trans e4) ⟨p4, sortI fs, rfl, fresh_back (e1.trans e3) hp4, h4, sortI_ok nd hin hne⟩

/-! ### the law k03 -/
open Sd.J
theorem el_listRgN {σ : L2.St} {H : Hp} {ta : TE} {n : Nat} (h : Ev ta σ H (.int (n : Int))) (hn : n ≤ 1000) : EvL (tLstRg (tRg1 ta)) σ H ((List.range n).map fun (i : Nat) => V.int (i : Int)) := fun H1 e Q q =>
  h H1 e _ fun H2 e2 => ⟨_, rfl, RgOk.of_le (by omega) (by omega) (by omega) (by omega), fun p hp => by
    have := q p (upd H2 p (.lst (rgV 0 (n : Int)))) (fresh_back e2 hp) (e2.trans (Ex.new hp)) (by
      rw [upd_same]
      unfold rgV
      rw [show ((n : Int) - 0).toNat = n by omega]
      congr 2
      refine List.map_congr_left fun i _ => ?_
      rw [Int.zero_add])
    exact this⟩
theorem cok_range {h w : Nat} (gk : GOk h w) : COk h w ((List.range (h * w)).map fun (i : Nat) => (i : Int)) := by
  obtain ⟨g1, g2, g3, g4⟩ := gk
  have hwp : 1 ≤ h * w := Nat.mul_pos g1 g3
  have cast : ((h * w : Nat) : Int) = (h : Int) * w := Int.natCast_mul h w
  refine ⟨fun z => ?_, fun x hx => ?_, ?_⟩
  · have := congrArg List.length z
    rw [List.length_map, List.length_range] at this
    simp at this
    omega
  · obtain ⟨i, hi, rfl⟩ := List.mem_map.mp hx
    have := List.mem_range.mp hi
    omega
  · show List.Pairwise _ _
    rw [List.pairwise_map]
    exact List.pairwise_lt_range.imp fun h => by omega
/-- for x in [new by R, new list, new list] -/
theorem s_for3 {K : PySem.W.Frag} {σ : L2.St} {H : Hp} {ta tb tc : TE} {tu : TS} {D : Ends} {R : Hp → V → Hp → Prop} {j : Nat} {ys zs : List V} (h1 : EvP ta σ H R) (h2 : EvL tb σ H ys) (h3 : EvL tc σ H zs) (Pv : V → Addr → Addr → Addr → Nat → L2.St → Hp → Prop)
    (h0 : ∀ u p s T H1 H2, Ex H H1 → R H u H1 → Ex H1 H2 → H2 p = some (.lst ys) → H2 s = some (.lst zs) → H2 T = some (.lst [u, .ref p, .ref s]) → Pv u p s T 0 σ H2) (hq : ∀ u p s T n σ' H', Pv u p s T n σ' H' → H' T = some (.lst [u, .ref p, .ref s]))
    (hs : ∀ u p s T n v σ' H', [u, .ref p, .ref s][n]? = some v → Pv u p s T n σ' H' → tu { D with nx := Pv u p s T (n + 1), ct := Pv u p s T (n + 1), bk := D.nx } (σ'.set j (some v)) H') (hd : ∀ u p s T σ' H', Pv u p s T 3 σ' H' → D.nx σ' H') :
    tFor (iList K (tLst (tCons ta (tCons tb (tCons tc tNil))))) (gName j) tu D σ H :=
  h1 H (Ex.refl H) _ fun u H1 e1 r => h2 H1 e1 _ fun p H2 hp e2 h2' => h3 H2 (e1.trans e2) _ fun s H3 hs' e3 h3' => ⟨sz_of (by simp), fun T hT => ⟨T, rfl, ⟨_, sq_of upd_same⟩,
    for_list (xs := [u, .ref p, .ref s]) (Pv u p s T) (h0 u p s T H1 _ e1 r ((e2.trans e3).trans (Ex.new hT)) (Ex.new hT _ _ (e3 _ _ h2')) (Ex.new hT _ _ h3') upd_same) (fun n σ' H' _ p' => sq_of (hq u p s T n σ' H' p')) (fun n v σ' H' hv p' => hs u p s T n v σ' H' hv p') (fun σ' H' p' => hd u p s T σ' H' p')⟩⟩
theorem pts_dp {K : PySem.W.Frag} {H : Hp} : ∀ {qs : List Addr} {pts : List Pt}, Prs K H qs pts → DpAll K H (qs.map V.ref) (pts.map dPt)
  | [], [], .nil => .nil
  | _ :: _, _ :: _, .cons h hs => .cons (.tup h (.cons (.int _) (.cons (.int _) .nil))) (pts_dp hs)
theorem lay_pts : ∀ ps : List Pt, PyData.canLayAll0 (ps.map dPt) = true ∧ PyData.depthAll (ps.map dPt) ≤ 1
  | [] => ⟨rfl, by simp [PyData.depthAll]⟩
  | u :: r => by
    obtain ⟨h1, h2⟩ := lay_pts r
    refine ⟨?_, ?_⟩
    · rw [List.map_cons, PyData.canLayAll0, h1, lay_dPt]
      rfl
    · rw [List.map_cons, PyData.depthAll, depth_dPt]
      omega
theorem shaped_pts (ps : List Pt) : SeqAt.shaped (.list (ps.map dPt)) = true := shaped_of_len (lay_pts ps).1 (by have := (lay_pts ps).2; omega)
theorem eqv_pts_self (ps : List Pt) : PyData.eqv (.list (ps.map dPt)) (.list (ps.map dPt)) = true := SeqAt.eqv_refl _ (by rw [PyData.canLay0]; exact (lay_pts ps).1)
theorem cok_byN {h w : Nat} {cs : List Int} (hh : (!cs.isEmpty && cs.all (fun x => decide (0 ≤ x) && decide (x < (h : Int) * w)) && decide (cs.Pairwise (· < ·))) = true) : COk h w cs := by
  simp only [Bool.and_eq_true, List.all_eq_true, decide_eq_true_eq, Bool.not_eq_true', List.isEmpty_eq_false_iff] at hh
  exact ⟨hh.1.1, hh.1.2, hh.2⟩
def t_law (K : PySem.W.Frag) (C : Ad) : TS := (tSeq (tFor (iRng1 (tCons (tC (.int 3)) tNil)) (gName 1) (tSeq (tAsg (tCall (sp_l_grid K) [] E0 (tCons (tCall (sp_l_number K) [] E0 (tCons (tCB (rSum K) (tCons (tSl (rSlL K) (tVar 0) tNoPart (tPart (tC (.int 63)))) tNil)) (tCons (tOp oAdd (tVar 1) (tC (.int 1))) (tCons (tC (.int 5)) tNil)))) (tCons (tC (.int 36)) tNil))) (gName 2))
      (tFor (iList K (tLst (tCons (tCall (sp_l_grown K) [] E0 (tCons (tVar 0) (tCons (tVar 1) (tCons (tVar 2) tNil)))) (tCons (tCall (sp_l_cells K) [] E0 (tCons (tVar 0) (tCons (tVar 1) (tCons (tVar 2) tNil)))) (tCons (tLstRg (tRg1 (tOp oMul (tOp (rIxT K) (tVar 2) (tC (.int 0))) (tOp (rIxT K) (tVar 2) (tC (.int 1)))))) tNil))))) (gName 3) (tIfS (tNot (tB (tCall (sp_l_right K C) [] E0 (tCons (tVar 2) (tCons (tVar 3) tNil))))) (tRet (tC (.bl false))) tNext))))
      (tRet (tAndV (tOp (rEqD K) (tCall (sp_walk K C) [] E0 (tCons (tTup (tCons (tC (.int 1)) (tCons (tC (.int 2)) tNil))) (tCons (tLst (tCons (tC (.int 0)) (tCons (tC (.int 1)) tNil))) tNil))) (tLst (tCons (tTup (tCons (tC (.int 0)) (tCons (tC (.int 0)) tNil))) (tCons (tTup (tCons (tC (.int 0)) (tCons (tC (.int 1)) tNil))) (tCons (tTup (tCons (tC (.int 0)) (tCons (tC (.int 2)) tNil))) (tCons (tTup (tCons (tC (.int 1)) (tCons (tC (.int 2)) tNil))) (tCons (tTup (tCons (tC (.int 1)) (tCons (tC (.int 1)) tNil))) (tCons (tTup (tCons (tC (.int 1)) (tCons (tC (.int 0)) tNil))) tNil)))))))) (tCall (sp_l_refused K C) [] E0 (tCons (tTup (tCons (tC (.int 2)) (tCons (tC (.int 2)) tNil))) (tCons (tLst (tCons (tC (.int 0)) (tCons (tC (.int 3)) tNil))) tNil))))))
theorem pure_law {K : PySem.W.Frag} {C : Ad} {vs : List V} {H : Hp} {Q : VK} {E : XK} {D : Ends} (hD : D.rt = Q) {N : List Str} (hN : N.length = 4) (h : sp_law K vs H Q E) : t_law K C D (start N vs) H := by
  obtain ⟨a, ns, rfl, hn, sk, q⟩ := h
  subst hD
  rw [start_eq hN]
  change t_law K C D [some (.ref a), none, none, none] H
  have sb : Bits (ns.take 63).sum := by
    have := sum_bits (ns := ns.take 63) (b := 0) (by rw [List.length_take]; omega) (fun z hz => sk.2 z (List.mem_of_mem_take hz)) (by decide)
    rw [Int.add_zero] at this
    exact this
  refine q_forR1 (j := 1) (n := 3) (ea_cons ev_c ea_nil) ⟨by decide, by decide⟩ (fun i σ' H' => ∃ y1 y2 y3, σ' = [some (.ref a), y1, y2, y3] ∧ Ex H H') (fun H1 e1 => ⟨_, _, _, rfl, e1⟩) (fun i σ' H1 hi hP => ?_) (fun σ' H1 hP => ?_)
  · obtain ⟨y1, y2, y3, rfl, e1⟩ := hP
    have hn1 := ex_l e1 hn
    have num := ev_l_number (K := K) (E := E0) (ea_cons (ev_sum63 (K := K) (σ := [some (.ref a), some (.int (i : Int)), y2, y3]) rfl hn1) (ea_cons (ta := tOp oAdd (tVar 1) (tC (.int 1))) (x := .int ((i : Int) + 1)) (by walk_at "ev") (ea_cons (ev_c (v := .int 5)) ea_nil))) sb (by omega) (by omega) (Bits.small (by decide))
    refine q_asgU (i := 2) (eu_l_grid (K := K) (most := 36) (ea_cons num (ea_cons ev_c ea_nil)) (by decide) (by decide)) fun g H2 hg e2 h2 => ?_
    obtain ⟨gk, _⟩ := lGrid_ok (lNumber (ns.take 63).sum ((i : Int) + 1) 5) (most := 36) (by decide)
    generalize (lGrid (lNumber (ns.take 63).sum ((i : Int) + 1) 5) 36).1 = h at *
    generalize (lGrid (lNumber (ns.take 63).sum ((i : Int) + 1) 5) 36).2 = w at *
    obtain ⟨g1, g2, g3, g4⟩ := id gk
    have hwl := hw_le gk
    have cast : ((h * w : Nat) : Int) = (h : Int) * w := Int.natCast_mul h w
    have hs2 : SqT K H2 g [.int (h : Int), .int (w : Int)] := st_of h2
    have hn2 := ex_l e2 hn1
    have grown : EvP (tCall (sp_l_grown K) [] E0 (tCons (tVar 0) (tCons (tVar 1) (tCons (tVar 2) tNil)))) [some (.ref a), some (.int (i : Int)), some (.ref g), y3] H2 (fun _ v H2 => ∃ p cs, v = .ref p ∧ H2 p = some (.lst ((cs : List Int).map V.int)) ∧ COk h w cs) := fun H3 e3 Q' q' => (ea_cons (ta := tVar 0) (x := .ref a) (ev_var rfl) (ea_cons (ta := tVar 1) (x := .int (i : Int)) (ev_var rfl) (ea_cons (ta := tVar 2) (x := .ref g) (ev_var rfl) ea_nil))) H3 e3 _ fun H4 e4 => ⟨a, g, (i : Int), h, w, ns, rfl, ex_l (e3.trans e4) hn2, sk, by omega, by omega, ex_t (e3.trans e4) hs2, gk, fun v H5 e5 z => by
      obtain ⟨p, cs, rfl, _, h5, ck⟩ := z
      exact q' _ H5 (e4.trans e5) ⟨p, cs, rfl, h5, ck⟩⟩
    have rg := el_listRgN (n := h * w) (σ := [some (.ref a), some (.int (i : Int)), some (.ref g), y3]) (H := H2) (ta := tOp oMul (tOp (rIxT K) (tVar 2) (tC (.int 0))) (tOp (rIxT K) (tVar 2) (tC (.int 1)))) (by rw [cast]; walk_at "ev") (by omega)
    rw [show ((List.range (h * w)).map fun (i : Nat) => V.int (i : Int)) = ((List.range (h * w)).map fun (i : Nat) => (i : Int)).map V.int by rw [List.map_map]; rfl] at rg
    refine s_for3 (K := K) (j := 3) grown (el_l_cells (K := K) (b := (i : Int)) (ea_cons (ev_var rfl) (ea_cons (ev_var rfl) (ea_cons (ev_var rfl) ea_nil))) hn2 sk (by omega) (by omega) hs2 gk) rg
      (fun u p s T n σ' H' => ∃ y3, σ' = [some (.ref a), some (.int (i : Int)), some (.ref g), y3] ∧ Ex H2 H' ∧ H' T = some (.lst [u, .ref p, .ref s]) ∧ ∀ x ∈ [u, V.ref p, V.ref s], ∃ c cs, x = .ref c ∧ H' c = some (.lst ((cs : List Int).map V.int)) ∧ COk h w cs)
      (fun u p s T H3 H4 e3 hu e4 hp hs' hT => ⟨_, rfl, e3.trans e4, hT, fun x hx => by
        simp only [List.mem_cons, List.not_mem_nil, or_false] at hx
        rcases hx with rfl | rfl | rfl
        · obtain ⟨c, cs, rfl, hc, ck⟩ := hu
          exact ⟨c, cs, rfl, e4 _ _ hc, ck⟩
        · exact ⟨p, _, rfl, hp, lCells_ok ns (i : Int) gk⟩
        · exact ⟨s, _, rfl, hs', cok_range gk⟩⟩) (fun u p s T n σ' H' hP => by
        obtain ⟨_, _, _, z, _⟩ := hP
        exact z) (fun u p s T n v σ' H3 hv hP => ?_) (fun u p s T σ' H3 hP => ?_)
    · obtain ⟨y3', rfl, e3, hT, hall⟩ := hP
      obtain ⟨c, cs, rfl, hc, ck⟩ := hall v (List.mem_of_getElem? hv)
      refine s_when (b := false) (et_is (et_not (et_B (ev_l_right (K := K) (C := C) (est_of (ev_var rfl) (ex_t e3 hs2)) gk (es_of (ev_var rfl) (sq_of hc)) ck))) rfl) (fun z => nomatch z) (fun _ H4 e4 => ⟨_, rfl, e3.trans e4, e4 _ _ hT, fun x hx => by
        obtain ⟨c', cs', rfl, hc', ck'⟩ := hall x hx
        exact ⟨c', cs', rfl, e4 _ _ hc', ck'⟩⟩)
    · obtain ⟨y3', rfl, e3, _⟩ := hP
      exact ⟨_, _, _, rfl, (e1.trans e2).trans e3⟩
  · obtain ⟨y1, y2, y3, rfl, e1⟩ := hP
    have tup : ∀ {σ : L2.St} {H' : Hp} (x y : Int), EvST K (tTup (tCons (tC (.int x)) (tCons (tC (.int y)) tNil))) σ H' [.int x, .int y] := fun x y => est_new (eu_tup (ea_cons ev_c (ea_cons ev_c ea_nil)) (by simp))
    have dw : EvD K (tCall (sp_walk K C) [] E0 (tCons (tTup (tCons (tC (.int 1)) (tCons (tC (.int 2)) tNil))) (tCons (tLst (tCons (tC (.int 0)) (tCons (tC (.int 1)) tNil))) tNil))) [some (.ref a), y1, y2, y3] H1 (.list (([(0, 0), (0, 1), (0, 2), (1, 2), (1, 1), (1, 0)] : List Pt).map dPt)) := by
      have := ep_walk (K := K) (C := C) (E := E0) (σ := [some (.ref a), y1, y2, y3]) (H := H1) (h := 1) (w := 2) (cs := [0, 1]) (pts := [(0, 0), (0, 1), (0, 2), (1, 2), (1, 1), (1, 0)]) (tup 1 2) ⟨by decide, by decide, by decide, by decide⟩ (es_new (el_lst (ta := tCons (tC (.int 0)) (tCons (tC (.int 1)) tNil)) (ea_cons ev_c (ea_cons ev_c ea_nil)) (by simp))) (cok_byN (by decide)) (by decide +kernel) (by decide +kernel)
      exact ed_p this fun _ _ _ z => by
        obtain ⟨p, qs, rfl, _, h2, h3⟩ := z
        exact .lst (sq_of h2) (pts_dp h3)
    have pr : ∀ {σ : L2.St} {H' : Hp} (x y : Int), EvD K (tTup (tCons (tC (.int x)) (tCons (tC (.int y)) tNil))) σ H' (dP x y) := fun x y => ed_pair (K := K) ev_c ev_c
    refine s_ret (v := .bl true) (ev_is (ev_andV (a := true) (b := true) (ev_is (ev_eqD dw (d' := .list (([(0, 0), (0, 1), (0, 2), (1, 2), (1, 1), (1, 0)] : List Pt).map dPt)) (ed_lst (ead_cons (pr 0 0) (ead_cons (pr 0 1) (ead_cons (pr 0 2) (ead_cons (pr 1 2) (ead_cons (pr 1 1) (ead_cons (pr 1 0) ead_nil)))))) (by simp)) (shaped_pts _) (shaped_pts _)) (by rw [eqv_pts_self])) (fun _ => ev_l_refused (K := K) (C := C) (h := 2) (w := 2) (cs := [0, 3]) (tup 2 2) ⟨by decide, by decide, by decide, by decide⟩ (es_new (el_lst (ta := tCons (tC (.int 0)) (tCons (tC (.int 3)) tNil)) (ea_cons ev_c (ea_cons ev_c ea_nil)) (by simp))) (cok_byN (by decide)) (by decide +kernel))) rfl) fun H2 e2 => q H2

/-! ### the text -/
def topS (i : Nat) : Stmt := PySem.Challenge.pw_sidering_k03_whole_walk.main.body.getD i (.Pass ⟨0, 0, 0, 0⟩)
abbrev s_l_grid : Stmt := topS 24
theorem sc_l_grid : FnScope ["_law_number_here", "_law_most", "_law_high", "_law_wide"] ["_law_number_here", "_law_most"] (defScope s_l_grid) := ⟨rfl, rfl, rfl, by decide +kernel, rfl, by decide +kernel, by decide +kernel⟩
abbrev s_l_number : Stmt := topS 21
theorem sc_l_number : FnScope ["_law_cell", "_law_at", "_law_whole_here", "_law_mixed", "_law_more"] ["_law_cell", "_law_at", "_law_whole_here"] (defScope s_l_number) := ⟨rfl, rfl, rfl, by decide +kernel, rfl, by decide +kernel, by decide +kernel⟩
abbrev s_l_beside : Stmt := topS 25
theorem sc_l_beside : FnScope ["_law_grid_here", "_law_cell", "_law_row", "_law_at", "_law_spots", "_law_one", "_law_two"] ["_law_grid_here", "_law_cell"] (defScope s_l_beside) := ⟨rfl, rfl, rfl, by decide +kernel, rfl, by decide +kernel, by decide +kernel⟩
abbrev s_l_sides : Stmt := topS 26
theorem sc_l_sides : FnScope ["_law_grid_here", "_law_cells_here", "_law_found", "_law_cell", "_law_row", "_law_at", "_law_four", "_law_side"] ["_law_grid_here", "_law_cells_here"] (defScope s_l_sides) := ⟨rfl, rfl, rfl, by decide +kernel, rfl, by decide +kernel, by decide +kernel⟩
abbrev s_l_points : Stmt := topS 27
theorem sc_l_points : FnScope ["_law_sides_here", "_law_found", "_law_one", "_law_other"] ["_law_sides_here"] (defScope s_l_points) := ⟨rfl, rfl, rfl, by decide +kernel, rfl, by decide +kernel, by decide +kernel⟩
abbrev s_l_is_ring : Stmt := topS 28
theorem sc_l_is_ring : FnScope ["_law_grid_here", "_law_cells_here", "_law_sides_here", "_law_near", "_law_first", "_law_ahead", "_law_here", "_law_steps", "_law_rest", "_law_point"] ["_law_grid_here", "_law_cells_here"] (defScope s_l_is_ring) := ⟨rfl, rfl, rfl, by decide +kernel, rfl, by decide +kernel, by decide +kernel⟩
abbrev s_l_grown : Stmt := topS 30
theorem sc_l_grown : FnScope ["_law_script", "_law_by", "_law_grid_here", "_law_drawn", "_law_found", "_law_at", "_law_number_here", "_law_near", "_law_cell"] ["_law_script", "_law_by", "_law_grid_here"] (defScope s_l_grown) := ⟨rfl, rfl, rfl, by decide +kernel, rfl, by decide +kernel, by decide +kernel⟩
abbrev s_l_cells : Stmt := topS 23
theorem sc_l_cells : FnScope ["_law_script", "_law_by", "_law_grid_here", "_law_drawn", "_law_whole_here", "_law_many", "_law_found", "_law_at", "_law_number_here", "_law_cell"] ["_law_script", "_law_by", "_law_grid_here"] (defScope s_l_cells) := ⟨rfl, rfl, rfl, by decide +kernel, rfl, by decide +kernel, by decide +kernel⟩
abbrev s_is_whole : Stmt := topS 8
theorem sc_is_whole : FnScope ["thing"] ["thing"] (defScope s_is_whole) := ⟨rfl, rfl, rfl, by decide +kernel, rfl, by decide +kernel, by decide +kernel⟩
abbrev s_check_grid : Stmt := topS 9
theorem sc_check_grid : FnScope ["grid", "one"] ["grid"] (defScope s_check_grid) := ⟨rfl, rfl, rfl, by decide +kernel, rfl, by decide +kernel, by decide +kernel⟩
abbrev s_check_cells : Stmt := topS 10
theorem sc_check_cells : FnScope ["grid", "cells", "many", "one", "other"] ["grid", "cells"] (defScope s_check_cells) := ⟨rfl, rfl, rfl, by decide +kernel, rfl, by decide +kernel, by decide +kernel⟩
abbrev s_beside : Stmt := topS 11
theorem sc_beside : FnScope ["grid", "cell", "high", "wide", "found"] ["grid", "cell"] (defScope s_beside) := ⟨rfl, rfl, rfl, by decide +kernel, rfl, by decide +kernel, by decide +kernel⟩
abbrev s_spread : Stmt := topS 13
theorem sc_spread : FnScope ["grid", "first", "some", "found", "at", "one"] ["grid", "first", "some"] (defScope s_spread) := ⟨rfl, rfl, rfl, by decide +kernel, rfl, by decide +kernel, by decide +kernel⟩
abbrev s_is_inner : Stmt := topS 14
theorem sc_is_inner : FnScope ["grid", "cells", "cell", "high", "wide", "rest", "one"] ["grid", "cells", "cell"] (defScope s_is_inner) := ⟨rfl, rfl, rfl, by decide +kernel, rfl, by decide +kernel, by decide +kernel⟩
abbrev s_first_inner : Stmt := topS 15
theorem sc_first_inner : FnScope ["grid", "cells", "cell"] ["grid", "cells"] (defScope s_first_inner) := ⟨rfl, rfl, rfl, by decide +kernel, rfl, by decide +kernel, by decide +kernel⟩
abbrev s_is_ring : Stmt := topS 16
theorem sc_is_ring : FnScope ["grid", "cells"] ["grid", "cells"] (defScope s_is_ring) := ⟨rfl, rfl, rfl, by decide +kernel, rfl, by decide +kernel, by decide +kernel⟩
abbrev s_side_ahead : Stmt := topS 18
theorem sc_side_ahead : FnScope ["grid", "cells", "point", "turn", "high", "wide", "row", "at", "pairs", "found", "here", "there"] ["grid", "cells", "point", "turn"] (defScope s_side_ahead) := ⟨rfl, rfl, rfl, by decide +kernel, rfl, by decide +kernel, by decide +kernel⟩
abbrev s_walk : Stmt := topS 19
theorem sc_walk : FnScope ["grid", "cells", "first", "steps", "found", "turn", "here", "back", "way"] ["grid", "cells"] (defScope s_walk) := ⟨rfl, rfl, rfl, by decide +kernel, rfl, by decide +kernel, by decide +kernel⟩
abbrev s_l_refused : Stmt := topS 29
theorem sc_l_refused : FnScope ["_law_grid_here", "_law_cells_here", "error", "_law_others"] ["_law_grid_here", "_law_cells_here"] (defScope s_l_refused) := ⟨rfl, rfl, rfl, by decide +kernel, rfl, by decide +kernel, by decide +kernel⟩
abbrev s_l_whole : Stmt := topS 22
theorem sc_l_whole : FnScope ["_law_found"] ["_law_found"] (defScope s_l_whole) := ⟨rfl, rfl, rfl, by decide +kernel, rfl, by decide +kernel, by decide +kernel⟩
abbrev s_l_right : Stmt := topS 31
theorem sc_l_right : FnScope ["_law_grid_here", "_law_cells_here", "_law_handed", "_law_sides_here", "_law_again", "_law_found", "_law_pairs", "_law_one", "_law_other", "_law_point"] ["_law_grid_here", "_law_cells_here"] (defScope s_l_right) := ⟨rfl, rfl, rfl, by decide +kernel, rfl, by decide +kernel, by decide +kernel⟩
abbrev s_law : Stmt := topS 32
theorem sc_law : FnScope ["_law_script", "_law_by", "_law_grid_here", "_law_cells_here"] ["_law_script"] (defScope s_law) := ⟨rfl, rfl, rfl, by decide +kernel, rfl, by decide +kernel, by decide +kernel⟩
structure Tx (K : PySem.W.Frag) (mg : Str → Option Value) where
  C : Ad
  f_l_grid : Addr
  fd_l_grid : FuncData
  F_l_grid : Fun K "_law_grid" "_law_grid" s_l_grid f_l_grid fd_l_grid
  g_l_grid : mg "_law_grid" = some (.ref f_l_grid)
  b_l_grid : Binds K fd_l_grid ["_law_number_here", "_law_most"] []
  f_l_number : Addr
  fd_l_number : FuncData
  F_l_number : Fun K "_law_number" "_law_number" s_l_number f_l_number fd_l_number
  g_l_number : mg "_law_number" = some (.ref f_l_number)
  b_l_number : Binds K fd_l_number ["_law_cell", "_law_at", "_law_whole_here"] []
  f_l_beside : Addr
  fd_l_beside : FuncData
  F_l_beside : Fun K "_law_beside" "_law_beside" s_l_beside f_l_beside fd_l_beside
  g_l_beside : mg "_law_beside" = some (.ref f_l_beside)
  b_l_beside : Binds K fd_l_beside ["_law_grid_here", "_law_cell"] []
  f_l_sides : Addr
  fd_l_sides : FuncData
  F_l_sides : Fun K "_law_sides" "_law_sides" s_l_sides f_l_sides fd_l_sides
  g_l_sides : mg "_law_sides" = some (.ref f_l_sides)
  b_l_sides : Binds K fd_l_sides ["_law_grid_here", "_law_cells_here"] []
  f_l_points : Addr
  fd_l_points : FuncData
  F_l_points : Fun K "_law_points" "_law_points" s_l_points f_l_points fd_l_points
  g_l_points : mg "_law_points" = some (.ref f_l_points)
  b_l_points : Binds K fd_l_points ["_law_sides_here"] []
  f_l_is_ring : Addr
  fd_l_is_ring : FuncData
  F_l_is_ring : Fun K "_law_is_ring" "_law_is_ring" s_l_is_ring f_l_is_ring fd_l_is_ring
  g_l_is_ring : mg "_law_is_ring" = some (.ref f_l_is_ring)
  b_l_is_ring : Binds K fd_l_is_ring ["_law_grid_here", "_law_cells_here"] []
  f_l_grown : Addr
  fd_l_grown : FuncData
  F_l_grown : Fun K "_law_grown" "_law_grown" s_l_grown f_l_grown fd_l_grown
  g_l_grown : mg "_law_grown" = some (.ref f_l_grown)
  b_l_grown : Binds K fd_l_grown ["_law_script", "_law_by", "_law_grid_here"] []
  f_l_cells : Addr
  fd_l_cells : FuncData
  F_l_cells : Fun K "_law_cells" "_law_cells" s_l_cells f_l_cells fd_l_cells
  g_l_cells : mg "_law_cells" = some (.ref f_l_cells)
  b_l_cells : Binds K fd_l_cells ["_law_script", "_law_by", "_law_grid_here"] []
  f_is_whole : Addr
  fd_is_whole : FuncData
  F_is_whole : Fun K "is_whole" "is_whole" s_is_whole f_is_whole fd_is_whole
  g_is_whole : mg "is_whole" = some (.ref f_is_whole)
  b_is_whole : Binds K fd_is_whole ["thing"] []
  f_check_grid : Addr
  fd_check_grid : FuncData
  F_check_grid : Fun K "check_grid" "check_grid" s_check_grid f_check_grid fd_check_grid
  g_check_grid : mg "check_grid" = some (.ref f_check_grid)
  b_check_grid : Binds K fd_check_grid ["grid"] []
  f_check_cells : Addr
  fd_check_cells : FuncData
  F_check_cells : Fun K "check_cells" "check_cells" s_check_cells f_check_cells fd_check_cells
  g_check_cells : mg "check_cells" = some (.ref f_check_cells)
  b_check_cells : Binds K fd_check_cells ["grid", "cells"] []
  f_beside : Addr
  fd_beside : FuncData
  F_beside : Fun K "beside" "beside" s_beside f_beside fd_beside
  g_beside : mg "beside" = some (.ref f_beside)
  b_beside : Binds K fd_beside ["grid", "cell"] []
  f_spread : Addr
  fd_spread : FuncData
  F_spread : Fun K "spread" "spread" s_spread f_spread fd_spread
  g_spread : mg "spread" = some (.ref f_spread)
  b_spread : Binds K fd_spread ["grid", "first", "some"] []
  f_is_inner : Addr
  fd_is_inner : FuncData
  F_is_inner : Fun K "is_inner" "is_inner" s_is_inner f_is_inner fd_is_inner
  g_is_inner : mg "is_inner" = some (.ref f_is_inner)
  b_is_inner : Binds K fd_is_inner ["grid", "cells", "cell"] []
  f_first_inner : Addr
  fd_first_inner : FuncData
  F_first_inner : Fun K "first_inner" "first_inner" s_first_inner f_first_inner fd_first_inner
  g_first_inner : mg "first_inner" = some (.ref f_first_inner)
  b_first_inner : Binds K fd_first_inner ["grid", "cells"] []
  f_is_ring : Addr
  fd_is_ring : FuncData
  F_is_ring : Fun K "is_ring" "is_ring" s_is_ring f_is_ring fd_is_ring
  g_is_ring : mg "is_ring" = some (.ref f_is_ring)
  b_is_ring : Binds K fd_is_ring ["grid", "cells"] []
  f_side_ahead : Addr
  fd_side_ahead : FuncData
  F_side_ahead : Fun K "side_ahead" "side_ahead" s_side_ahead f_side_ahead fd_side_ahead
  g_side_ahead : mg "side_ahead" = some (.ref f_side_ahead)
  b_side_ahead : Binds K fd_side_ahead ["grid", "cells", "point", "turn"] []
  f_walk : Addr
  fd_walk : FuncData
  F_walk : Fun K "walk" "walk" s_walk f_walk fd_walk
  g_walk : mg "walk" = some (.ref f_walk)
  b_walk : Binds K fd_walk ["grid", "cells"] []
  f_l_refused : Addr
  fd_l_refused : FuncData
  F_l_refused : Fun K "_law_refused" "_law_refused" s_l_refused f_l_refused fd_l_refused
  g_l_refused : mg "_law_refused" = some (.ref f_l_refused)
  b_l_refused : Binds K fd_l_refused ["_law_grid_here", "_law_cells_here"] []
  f_l_whole : Addr
  fd_l_whole : FuncData
  F_l_whole : Fun K "_law_whole" "_law_whole" s_l_whole f_l_whole fd_l_whole
  g_l_whole : mg "_law_whole" = some (.ref f_l_whole)
  b_l_whole : Binds K fd_l_whole ["_law_found"] []
  f_l_right : Addr
  fd_l_right : FuncData
  F_l_right : Fun K "_law_right" "_law_right" s_l_right f_l_right fd_l_right
  g_l_right : mg "_law_right" = some (.ref f_l_right)
  b_l_right : Binds K fd_l_right ["_law_grid_here", "_law_cells_here"] []
  f_law : Addr
  fd_law : FuncData
  F_law : Fun K "law" "law" s_law f_law fd_law
  g_law : mg "law" = some (.ref f_law)
  b_law : Binds K fd_law ["_law_script"] []
  n_any : mg "any" = none
  n_sorted : mg "sorted" = none
  n_list : mg "list" = none
  n_len : mg "len" = none
  n_min : mg "min" = none
  n_sum : mg "sum" = none
  n_range : mg "range" = none
  n_isinstance : mg "isinstance" = none
  n_int : mg "int" = none
  n_bool : mg "bool" = none
  n_tuple : mg "tuple" = none
  n_all : mg "all" = none
  k_MOST : Tok
  g_MOST : mg "MOST" = some (.int 6 k_MOST)
  g_BadGrid : mg "BadGrid" = some (.ref C.cBadGrid)
  x_BadGrid : PySem.W.excIn K C.cBadGrid [.type "ValueError", .type "Exception", .type "BaseException", .type "object"] "ValueError.__new__" = true
  k_BadGrid : PySem.W.keepIn K (.ref C.cBadGrid) = true
  e_BadGrid : PySem.W.subIn K (.ref C.cBadGrid) (.type "BaseException") = some true
  y_BadGrid : PySem.W.typeIn K (.ref C.cBadGrid) = some (.type "type")
  g_BadCells : mg "BadCells" = some (.ref C.cBadCells)
  x_BadCells : PySem.W.excIn K C.cBadCells [.type "ValueError", .type "Exception", .type "BaseException", .type "object"] "ValueError.__new__" = true
  k_BadCells : PySem.W.keepIn K (.ref C.cBadCells) = true
  e_BadCells : PySem.W.subIn K (.ref C.cBadCells) (.type "BaseException") = some true
  y_BadCells : PySem.W.typeIn K (.ref C.cBadCells) = some (.type "type")
  n_zip : mg "zip" = none
  g_NoRing : mg "NoRing" = some (.ref C.cNoRing)
  x_NoRing : PySem.W.excIn K C.cNoRing [.type "ValueError", .type "Exception", .type "BaseException", .type "object"] "ValueError.__new__" = true
  k_NoRing : PySem.W.keepIn K (.ref C.cNoRing) = true
  e_NoRing : PySem.W.subIn K (.ref C.cNoRing) (.type "BaseException") = some true
  y_NoRing : PySem.W.typeIn K (.ref C.cNoRing) = some (.type "type")
  ex_NoRing : ExcC K C.cNoRing
  g_RingError : mg "RingError" = some (.ref C.cRingError)
  em_NoRing : PySem.W.exmOne K (.ref C.cNoRing) (.ref C.cRingError) = some true
  ki_NoRing_BadCells : PySem.W.kitOne K (.ref C.cNoRing) (.ref C.cBadCells) = some false
  g_BadClues : mg "BadClues" = some (.ref C.cBadClues)
  ki_NoRing_BadClues : PySem.W.kitOne K (.ref C.cNoRing) (.ref C.cBadClues) = some false
  ki_NoRing_BadGrid : PySem.W.kitOne K (.ref C.cNoRing) (.ref C.cBadGrid) = some false
  ki_NoRing_NoRing : PySem.W.kitOne K (.ref C.cNoRing) (.ref C.cNoRing) = some true
  n_max : mg "max" = none
section
variable {P : Program} {w : World} {K : PySem.W.Frag} {mg : Str → Option Value} {base : Heap}
set_option maxHeartbeats 4000000 in
theorem ok_l_grid (T : Tx K mg) : FnOk P w K mg base CX0 1 T.f_l_grid T.fd_l_grid ["_law_number_here", "_law_most"] (sp_l_grid K) := by
  refine T.F_l_grid.ok sc_l_grid (fun vs H Q E h => by obtain ⟨_, _, rfl, _⟩ := h; rfl) (fun cdv A outer s H vs Q E hr h => ⟨t_l_grid K, ?_, pure_l_grid rfl rfl h⟩)
  exact (pss_cons (ps_par (i := 2) (j := 3) (by rfl) sc_l_grid.nd rfl rfl (by decide) rfl rfl (pa_cons (pe_op op_add pe_int (pe_op op_mod (pv 0) pe_int)) (pa_cons (pe_op op_add pe_int (pe_op op_mod (pe_op op_fdiv (pv 0) pe_int) pe_int)) pa_nil)) (by rfl))
      (pss_cons (ps_while PassesOwn.never (pt_cmpR op_gt (pe_op op_mul (pv 2) (pv 3)) (pv 1) (nomark _)) (pss_one (ps_asg (pe_ifExp (pt_cmpR op_gt (pv 2) (pv 3) (nomark _)) (pe_tup (pa_cons (pe_op op_sub (pv 2) pe_int) (pa_cons (pv 3) pa_nil))) (pe_tup (pa_cons (pv 2) (pa_cons (pe_op op_sub (pv 3) pe_int) pa_nil)))) (pg_tup rfl (pgs_cons (pg_name (i := 2) sc_l_grid.nd rfl (.inl rfl)) (pgs_cons (pg_name (i := 3) sc_l_grid.nd rfl (.inl rfl)) pgs_nil))))))
      (pss_one (ps_ret (pe_tup (pa_cons (pv 2) (pa_cons (pv 3) pa_nil)))))))
set_option maxHeartbeats 4000000 in
theorem ok_l_number (T : Tx K mg) : FnOk P w K mg base CX0 1 T.f_l_number T.fd_l_number ["_law_cell", "_law_at", "_law_whole_here"] (sp_l_number K) := by
  refine T.F_l_number.ok sc_l_number (fun vs H Q E h => by obtain ⟨_, _, _, rfl, _⟩ := h; rfl) (fun cdv A outer s H vs Q E hr h => ⟨t_l_number K, ?_, pure_l_number rfl rfl h⟩)
  exact (pss_cons (ps_if (pt_cmpR op_ge (pv 0) (pe_op op_pow pe_int pe_int) (nomark _)) (pss_one (ps_ret (pv 0))) pss_nil)
      (pss_cons (ps_set (i := 3) sc_l_number.nd rfl (.inl rfl) (pe_op op_mod (pe_op op_add (pe_op op_mul (pe_op op_add (pv 0) (pe_op op_mul pe_int (pv 1))) pe_int) (pv 2)) pe_int))
      (pss_cons (ps_set (i := 4) sc_l_number.nd rfl (.inl rfl) (pe_op op_mulX (pe_op op_mul (pv 3) (pe_op op_add (pe_op op_add (pv 3) (pe_op op_mul pe_int (pv 1))) pe_int)) (pe_op op_add (pe_op op_add (pv 3) (pv 0)) pe_int)))
      (pss_one (ps_ret (pe_op op_fdiv (pe_op op_mulX (pv 4) (pe_op op_add (pv 4) pe_int)) pe_int))))))
set_option maxHeartbeats 4000000 in
theorem ok_l_beside (T : Tx K mg) : FnOk P w K mg base CX0 1 T.f_l_beside T.fd_l_beside ["_law_grid_here", "_law_cell"] (sp_l_beside K) := by
  refine T.F_l_beside.ok sc_l_beside (fun vs H Q E h => by obtain ⟨_, _, _, _, rfl, _⟩ := h; rfl) (fun cdv A outer s H vs Q E hr h => ⟨t_l_beside K, ?_, pure_l_beside rfl rfl h⟩)
  exact (pss_cons (ps_par (i := 2) (j := 3) (by rfl) sc_l_beside.nd rfl rfl (by decide) rfl rfl (pa_cons (pe_op op_fdiv (pv 1) (pe_ix ix_tup (pv 0) pe_int (fun _ _ => rfl))) (pa_cons (pe_op op_mod (pv 1) (pe_ix ix_tup (pv 0) pe_int (fun _ _ => rfl))) pa_nil)) (by rfl))
      (pss_cons (ps_set (i := 4) sc_l_beside.nd rfl (.inl rfl) (pe_lst (pa_cons (pe_tup (pa_cons (pe_op op_sub (pv 2) pe_int) (pa_cons (pv 3) pa_nil))) (pa_cons (pe_tup (pa_cons (pv 2) (pa_cons (pe_op op_sub (pv 3) pe_int) pa_nil))) (pa_cons (pe_tup (pa_cons (pv 2) (pa_cons (pe_op op_add (pv 3) pe_int) pa_nil))) (pa_cons (pe_tup (pa_cons (pe_op op_add (pv 2) pe_int) (pa_cons (pv 3) pa_nil))) pa_nil))))))
      (pss_one (ps_ret (pe_lc (own := [("_law_one", 5), ("_law_two", 6)]) (g := (gTup K 2 (gCons (gName 5) (gCons (gName 6) gNil)))) (tt := (tAnd (tTest (tChain oLe oLt (tC (.int 0)) (tVar 5) (tOp (rIxT K) (tVar 0) (tC (.int 0))))) (tTest (tChain oLe oLt (tC (.int 0)) (tVar 6) (tOp (rIxT K) (tVar 0) (tC (.int 1))))))) (te := (tOp oAdd (tOp oMul (tVar 5) (tOp (rIxT K) (tVar 0) (tC (.int 1)))) (tVar 6))) rfl sc_l_beside.nd (pi_list (pv 4)) (blkOk_by (own := [("_law_one", 5), ("_law_two", 6)]) (by kernel_rfl)) (fun _ _ _ _ _ => (pg_tup rfl (pgs_cons (pg_name (i := 5) sc_l_beside.nd rfl (.inl rfl)) (pgs_cons (pg_name (i := 6) sc_l_beside.nd rfl (.inl rfl)) pgs_nil)))) (fun _ _ _ _ _ => (pts_one (PW.pt (pw_and (pt_chain op_le op_lt pe_int (pv 5) (pe_ix ix_tup (pv 0) pe_int (fun _ _ => rfl))) (pw_and1 (pt_chain op_le op_lt pe_int (pv 6) (pe_ix ix_tup (pv 0) pe_int (fun _ _ => rfl)))))))) (fun _ _ _ _ _ => (pe_op op_add (pe_op op_mul (pv 5) (pe_ix ix_tup (pv 0) pe_int (fun _ _ => rfl))) (pv 6))))))))
set_option maxHeartbeats 4000000 in
theorem ok_l_sides (T : Tx K mg) : FnOk P w K mg base CX0 1 T.f_l_sides T.fd_l_sides ["_law_grid_here", "_law_cells_here"] (sp_l_sides K) := by
  refine T.F_l_sides.ok sc_l_sides (fun vs H Q E h => by obtain ⟨_, _, _, _, _, rfl, _⟩ := h; rfl) (fun cdv A outer s H vs Q E hr h => ⟨t_l_sides K w, ?_, pure_l_sides rfl rfl h⟩)
  exact (pss_cons (ps_set (i := 2) sc_l_sides.nd rfl (.inr rfl) pe_dnewN)
      (pss_cons (ps_for PassesOwn.never rfl (pi_list (pv 1)) (pg_name (i := 3) sc_l_sides.nd rfl (.inl rfl)) (pss_cons (ps_par (i := 4) (j := 5) (by rfl) sc_l_sides.nd rfl rfl (by decide) rfl rfl (pa_cons (pe_op op_fdiv (pv 3) (pe_ix ix_tup (pv 0) pe_int (fun _ _ => rfl))) (pa_cons (pe_op op_mod (pv 3) (pe_ix ix_tup (pv 0) pe_int (fun _ _ => rfl))) pa_nil)) (by rfl))
      (pss_cons (ps_set (i := 6) sc_l_sides.nd rfl (.inl rfl) (pe_lst (pa_cons (pe_tup (pa_cons (pe_tup (pa_cons (pv 4) (pa_cons (pv 5) pa_nil))) (pa_cons (pe_tup (pa_cons (pv 4) (pa_cons (pe_op op_add (pv 5) pe_int) pa_nil))) pa_nil))) (pa_cons (pe_tup (pa_cons (pe_tup (pa_cons (pe_op op_add (pv 4) pe_int) (pa_cons (pv 5) pa_nil))) (pa_cons (pe_tup (pa_cons (pe_op op_add (pv 4) pe_int) (pa_cons (pe_op op_add (pv 5) pe_int) pa_nil))) pa_nil))) pa_nil))))
      (pss_one (ps_for PassesOwn.never rfl (pi_list (pe_op op_cat (pv 6) (pe_lst (pa_cons (pe_tup (pa_cons (pe_tup (pa_cons (pv 4) (pa_cons (pv 5) pa_nil))) (pa_cons (pe_tup (pa_cons (pe_op op_add (pv 4) pe_int) (pa_cons (pv 5) pa_nil))) pa_nil))) (pa_cons (pe_tup (pa_cons (pe_tup (pa_cons (pv 4) (pa_cons (pe_op op_add (pv 5) pe_int) pa_nil))) (pa_cons (pe_tup (pa_cons (pe_op op_add (pv 4) pe_int) (pa_cons (pe_op op_add (pv 5) pe_int) pa_nil))) pa_nil))) pa_nil))))) (pg_name (i := 7) sc_l_sides.nd rfl (.inl rfl)) (pss_one (ps_putN (hu60 hr) (pv 2) (pv 7) (pe_op op_add (pe_get2N (hu60 hr) (pv 2) (pv 7) pe_int ⟨rfl, rfl, rfl, rfl⟩) pe_int) rfl)))))))
      (pss_one (ps_ret (pe_lock (pe_lc (own := [("_law_side", 7)]) (g := (gName 7)) (tt := (tTest (tOp rEq (tGetN w (tVar 2) (tVar 7)) (tC (.int 1))))) (te := (tVar 7)) rfl sc_l_sides.nd (pi_keysN (pv 2)) (blkOk_by (own := [("_law_side", 7)]) (by kernel_rfl)) (fun _ _ _ _ _ => (pg_name (i := 7) sc_l_sides.nd rfl (.inl rfl))) (fun _ _ _ _ _ => (pts_one (pt_cmpR op_eq (pe_getN (hu60 hr) (pv 2) (pv 7) (fun _ _ => rfl)) pe_int (nomark _)))) (fun _ _ _ _ _ => (pv 7))))))))
set_option maxHeartbeats 4000000 in
theorem ok_l_points (T : Tx K mg) : FnOk P w K mg base CX0 1 T.f_l_points T.fd_l_points ["_law_sides_here"] (sp_l_points K w) := by
  refine T.F_l_points.ok sc_l_points (fun vs H Q E h => by obtain ⟨_, _, _, rfl, _⟩ := h; rfl) (fun cdv A outer s H vs Q E hr h => ⟨t_l_points K w, ?_, pure_l_points rfl rfl h⟩)
  exact (pss_cons (ps_set (i := 1) sc_l_points.nd rfl (.inl rfl) pe_dnewN)
      (pss_cons (ps_for PassesOwn.never rfl (pi_list (pv 0)) (pg_tup rfl (pgs_cons (pg_name (i := 2) sc_l_points.nd rfl (.inl rfl)) (pgs_cons (pg_name (i := 3) sc_l_points.nd rfl (.inl rfl)) pgs_nil))) (pss_cons (ps_expr (pe_bm PySem.F.plainAttrs_list PySem.F.slot_list_append PySem.F.type_list_append mt_append (pe_setdN (hu60 hr) (pv 1) (pv 2) (pe_lst pa_nil) ⟨rfl, rfl, rfl, rfl⟩) (pa_cons (pv 3) pa_nil)))
      (pss_one (ps_expr (pe_bm PySem.F.plainAttrs_list PySem.F.slot_list_append PySem.F.type_list_append mt_append (pe_setdN (hu60 hr) (pv 1) (pv 3) (pe_lst pa_nil) ⟨rfl, rfl, rfl, rfl⟩) (pa_cons (pv 2) pa_nil))))))
      (pss_one (ps_ret (pv 1)))))
set_option maxHeartbeats 4000000 in
theorem ok_l_is_ring (T : Tx K mg) : FnOk P w K mg base CX0 2 T.f_l_is_ring T.fd_l_is_ring ["_law_grid_here", "_law_cells_here"] (sp_l_is_ring K) := by
  refine T.F_l_is_ring.ok sc_l_is_ring (fun vs H Q E h => by obtain ⟨_, _, _, _, _, rfl, _⟩ := h; rfl) (fun cdv A outer s H vs Q E hr h => ⟨t_l_is_ring K w, ?_, pure_l_is_ring rfl rfl h⟩)
  exact (pss_cons (ps_set (i := 2) sc_l_is_ring.nd rfl (.inl rfl) (pe_call (ok_l_sides T) (hr.mono (by decide)) rfl T.g_l_sides T.F_l_sides.kp T.b_l_sides .nil pass0 (pa_cons (pv 0) (pa_cons (pv 1) pa_nil))))
      (pss_cons (ps_set (i := 3) sc_l_is_ring.nd rfl (.inr rfl) (pe_call (ok_l_points T) (hr.mono (by decide)) rfl T.g_l_points T.F_l_points.kp T.b_l_points .nil pass0 (pa_cons (pv 2) pa_nil)))
      (pss_cons (ps_if (pt_val (pe_callB (cr_any rfl) (by rfl) T.n_any (by decide +kernel) (pa_cons (pe_lc (own := [("_law_point", 9)]) (g := (gName 9)) (tt := tYes) (te := (tOp rNe (tCB (rLenS K) (tCons (tGetN w (tVar 3) (tVar 9)) tNil)) (tC (.int 2)))) rfl sc_l_is_ring.nd (pi_list (pe_callB (cr_sortV (enc := dPt) hr.units) (by rfl) T.n_sorted (by decide +kernel) (pa_cons (pe_callTy (call_list_dN rfl) (by rfl) T.n_list (by decide +kernel) (pa_cons (pv 3) pa_nil)) pa_nil))) (blkOk_by (own := [("_law_point", 9)]) (by kernel_rfl)) (fun _ _ _ _ _ => (pg_name (i := 9) sc_l_is_ring.nd rfl (.inl rfl))) (fun _ _ _ _ _ => pts_nil) (fun _ _ _ _ _ => (pe_cmpR op_ne (pe_callB call_len_seq (by rfl) T.n_len (by decide +kernel) (pa_cons (pe_getN (hu60 hr) (pv 3) (pv 9) (fun _ _ => rfl)) pa_nil)) pe_int (nomark _)))) pa_nil))) (pss_one (ps_ret pe_bl)) pss_nil)
      (pss_cons (ps_set (i := 4) sc_l_is_ring.nd rfl (.inl rfl) (pe_callB (cr_minV (enc := dPt) rfl hr.units) (by rfl) T.n_min (by decide +kernel) (pa_cons (pe_callTy (call_list_dN rfl) (by rfl) T.n_list (by decide +kernel) (pa_cons (pv 3) pa_nil)) pa_nil)))
      (pss_cons (ps_asg (pe_tup (pa_cons (pv 4) (pa_cons (pe_ix ix_list (pe_getN (hu60 hr) (pv 3) (pv 4) (fun _ _ => rfl)) pe_int (fun _ _ => rfl)) (pa_cons pe_int pa_nil)))) (pg_tup rfl (pgs_cons (pg_name (i := 5) sc_l_is_ring.nd rfl (.inr rfl)) (pgs_cons (pg_name (i := 6) sc_l_is_ring.nd rfl (.inl rfl)) (pgs_cons (pg_name (i := 7) sc_l_is_ring.nd rfl (.inl rfl)) pgs_nil)))))
      (pss_cons (ps_while PassesOwn.never (pt_cmpR (op_neD hr.units) (pv 6) (pv 4) (nomark _)) (pss_cons (ps_setLc (i := 8) (own := [("_law_point", 9)]) (g := (gName 9)) (tt := (tTest (tOp (rNeD K) (tVar 9) (tVar 5)))) (te := (tVar 9)) rfl sc_l_is_ring.nd rfl rfl (sw_true rfl rfl rfl (by decide +kernel)) (pi_list (pe_getN (hu60 hr) (pv 3) (pv 6) (fun _ _ => rfl))) (blkOk_by (own := [("_law_point", 9)]) (by kernel_rfl)) (fun _ _ _ _ _ => (pg_name (i := 9) sc_l_is_ring.nd rfl (.inl rfl))) (fun _ _ _ _ _ => (pts_one (pt_cmpR (op_neD hr.units) (pv 9) (pv 5) (nomark _)))) (fun _ _ _ _ _ => (pv 9)))
      (pss_one (ps_asg (pe_tup (pa_cons (pv 6) (pa_cons (pe_ix ix_list (pv 8) pe_int (fun _ _ => rfl)) (pa_cons (pe_op op_add (pv 7) pe_int) pa_nil)))) (pg_tup rfl (pgs_cons (pg_name (i := 5) sc_l_is_ring.nd rfl (.inr rfl)) (pgs_cons (pg_name (i := 6) sc_l_is_ring.nd rfl (.inl rfl)) (pgs_cons (pg_name (i := 7) sc_l_is_ring.nd rfl (.inl rfl)) pgs_nil))))))))
      (pss_one (ps_ret (pe_cmpR op_eq (pv 7) (pe_callB call_len_seq (by rfl) T.n_len (by decide +kernel) (pa_cons (pv 2) pa_nil)) (nomark _))))))))))
set_option maxHeartbeats 4000000 in
theorem ok_l_grown (T : Tx K mg) : FnOk P w K mg base CX0 3 T.f_l_grown T.fd_l_grown ["_law_script", "_law_by", "_law_grid_here"] (sp_l_grown K) := by
  refine T.F_l_grown.ok sc_l_grown (fun vs H Q E h => by obtain ⟨_, _, _, _, _, _, rfl, _⟩ := h; rfl) (fun cdv A outer s H vs Q E hr h => ⟨t_l_grown K, ?_, pure_l_grown rfl rfl h⟩)
  exact (pss_cons (ps_set (i := 3) sc_l_grown.nd rfl (.inl rfl) (pe_ifExp (pt_cmpR (op_neD hr.units) (pv 0) (pe_lst pa_nil) (nomark _)) (pe_slice sl_list (pv 0) po_none (po_some pe_int)) (pe_lst (pa_cons pe_int pa_nil))))
      (pss_cons (ps_set (i := 4) sc_l_grown.nd rfl (.inl rfl) (pe_lst (pa_cons (pe_op op_mod (pe_callB (cr_sum rfl) (by rfl) T.n_sum (by decide +kernel) (pa_cons (pv 3) pa_nil)) (pe_op op_mul (pe_ix ix_tup (pv 2) pe_int (fun _ _ => rfl)) (pe_ix ix_tup (pv 2) pe_int (fun _ _ => rfl)))) pa_nil)))
      (pss_cons (ps_for PassesOwn.never rfl (pi_range1 rfl T.n_range (pa_cons pe_int pa_nil)) (pg_name (i := 5) sc_l_grown.nd rfl (.inl rfl)) (pss_cons (ps_set (i := 6) sc_l_grown.nd rfl (.inl rfl) (pe_op op_fdiv (pe_call (ok_l_number T) (hr.mono (by decide)) rfl T.g_l_number T.F_l_number.kp T.b_l_number .nil pass0 (pa_cons (pe_ix ix_list (pv 3) (pe_op op_mod (pe_op op_add (pv 5) (pv 1)) (pe_callB call_len_seq (by rfl) T.n_len (by decide +kernel) (pa_cons (pv 3) pa_nil))) (fun _ _ => rfl)) (pa_cons (pe_op op_add (pv 5) (pv 1)) (pa_cons pe_int pa_nil)))) pe_int))
      (pss_cons (ps_set (i := 7) sc_l_grown.nd rfl (.inl rfl) (pe_call (ok_l_beside T) (hr.mono (by decide)) rfl T.g_l_beside T.F_l_beside.kp T.b_l_beside .nil pass0 (pa_cons (pv 2) (pa_cons (pe_ix ix_list (pv 4) (pe_op op_mod (pv 6) (pe_callB call_len_seq (by rfl) T.n_len (by decide +kernel) (pa_cons (pv 4) pa_nil))) (fun _ _ => rfl)) pa_nil))))
      (pss_one (ps_if (pt_cmpR (op_neD hr.units) (pv 7) (pe_lst pa_nil) (nomark _)) (pss_cons (ps_set (i := 8) sc_l_grown.nd rfl (.inl rfl) (pe_ix ix_list (pv 7) (pe_op op_mod (pe_op op_fdiv (pv 6) pe_int) (pe_callB call_len_seq (by rfl) T.n_len (by decide +kernel) (pa_cons (pv 7) pa_nil))) (fun _ _ => rfl)))
      (pss_one (ps_if (PW.pt (pw_and (pt_cmpR op_notIn_seq (pv 8) (pv 4) (by rfl)) (pw_and1 (pt_val (pe_call (ok_l_is_ring T) (hr.mono (by decide)) rfl T.g_l_is_ring T.F_l_is_ring.kp T.b_l_is_ring .nil pass0 (pa_cons (pv 2) (pa_cons (pe_callB (cr_sortV (enc := PyData.int) hr.units) (by rfl) T.n_sorted (by decide +kernel) (pa_cons (pe_op op_cat (pv 4) (pe_lst (pa_cons (pv 8) pa_nil))) pa_nil)) pa_nil))))))) (pss_one (ps_set (i := 4) sc_l_grown.nd rfl (.inl rfl) (pe_op op_cat (pv 4) (pe_lst (pa_cons (pv 8) pa_nil))))) pss_nil))) pss_nil)))))
      (pss_one (ps_ret (pe_callB (cr_sortV (enc := PyData.int) hr.units) (by rfl) T.n_sorted (by decide +kernel) (pa_cons (pv 4) pa_nil)))))))
set_option maxHeartbeats 4000000 in
theorem ok_l_cells (T : Tx K mg) : FnOk P w K mg base CX0 2 T.f_l_cells T.fd_l_cells ["_law_script", "_law_by", "_law_grid_here"] (sp_l_cells K) := by
  refine T.F_l_cells.ok sc_l_cells (fun vs H Q E h => by obtain ⟨_, _, _, _, _, _, rfl, _⟩ := h; rfl) (fun cdv A outer s H vs Q E hr h => ⟨t_l_cells K, ?_, pure_l_cells rfl rfl h⟩)
  exact (pss_cons (ps_set (i := 3) sc_l_cells.nd rfl (.inl rfl) (pe_ifExp (pt_cmpR (op_neD hr.units) (pv 0) (pe_lst pa_nil) (nomark _)) (pe_slice sl_list (pv 0) po_none (po_some pe_int)) (pe_lst (pa_cons pe_int pa_nil))))
      (pss_cons (ps_set (i := 4) sc_l_cells.nd rfl (.inr rfl) (pe_op op_add (pe_callB (cr_sum rfl) (by rfl) T.n_sum (by decide +kernel) (pa_cons (pv 3) pa_nil)) (pv 1)))
      (pss_cons (ps_par (i := 5) (j := 6) (by rfl) sc_l_cells.nd rfl rfl (by decide) rfl rfl (pa_cons (pe_op op_mul (pe_ix ix_tup (pv 2) pe_int (fun _ _ => rfl)) (pe_ix ix_tup (pv 2) pe_int (fun _ _ => rfl))) (pa_cons (pe_lst pa_nil) pa_nil)) (by rfl))
      (pss_cons (ps_for PassesOwn.never rfl (pi_range1 rfl T.n_range (pa_cons (pv 5) pa_nil)) (pg_name (i := 7) sc_l_cells.nd rfl (.inl rfl)) (pss_cons (ps_set (i := 8) sc_l_cells.nd rfl (.inl rfl) (pe_op op_fdiv (pe_call (ok_l_number T) (hr.mono (by decide)) rfl T.g_l_number T.F_l_number.kp T.b_l_number .nil pass0 (pa_cons (pe_ix ix_list (pv 3) (pe_op op_mod (pe_op op_add (pv 7) (pv 1)) (pe_callB call_len_seq (by rfl) T.n_len (by decide +kernel) (pa_cons (pv 3) pa_nil))) (fun _ _ => rfl)) (pa_cons (pe_op op_add (pv 7) (pv 1)) (pa_cons (pv 4) pa_nil)))) pe_int))
      (pss_one (ps_if (pt_cmpR op_gt (pe_ix ix_tup (pe_tup (pa_cons (pe_op op_mod (pv 8) pe_int) (pa_cons (pe_op op_mod (pv 8) pe_int) (pa_cons pe_int (pa_cons (pe_op op_mod (pv 8) pe_int) pa_nil))))) (pe_op op_mod (pv 4) pe_int) (fun _ _ => rfl)) pe_int (nomark _)) (pss_one (ps_expr (pe_bm PySem.F.plainAttrs_list PySem.F.slot_list_append PySem.F.type_list_append mt_append (pv 6) (pa_cons (pv 7) pa_nil)))) pss_nil))))
      (pss_cons (ps_if (pt_cmpR op_eq (pe_op op_mod (pv 4) pe_int) pe_int (nomark _)) (pss_cons (ps_setLc (i := 6) (own := [("_law_cell", 9)]) (g := (gName 9)) (tt := (tTest (tOp oGe (tOp oDiv (tVar 9) (tOp (rIxT K) (tVar 2) (tC (.int 1)))) (tOp oMod (tOp oDiv (tVar 4) (tC (.int 4))) (tOp (rIxT K) (tVar 2) (tC (.int 0))))))) (te := (tVar 9)) rfl sc_l_cells.nd rfl rfl (sw_true rfl rfl rfl (by decide +kernel)) (pi_list (pv 6)) (blkOk_by (own := [("_law_cell", 9)]) (by kernel_rfl)) (fun _ _ _ _ _ => (pg_name (i := 9) sc_l_cells.nd rfl (.inl rfl))) (fun _ _ _ _ _ => (pts_one (pt_cmpR op_ge (pe_op op_fdiv (pv 9) (pe_ix ix_tup (pv 2) pe_int (fun _ _ => rfl))) (pe_op op_mod (pe_op op_fdiv (pv 4) pe_int) (pe_ix ix_tup (pv 2) pe_int (fun _ _ => rfl))) (nomark _)))) (fun _ _ _ _ _ => (pv 9)))
      (pss_one (ps_setLc (i := 6) (own := [("_law_cell", 9)]) (g := (gName 9)) (tt := (tTest (tOp oLe (tOp oMod (tVar 9) (tOp (rIxT K) (tVar 2) (tC (.int 1)))) (tOp oMod (tOp oDiv (tVar 4) (tC (.int 8))) (tOp (rIxT K) (tVar 2) (tC (.int 1))))))) (te := (tVar 9)) rfl sc_l_cells.nd rfl rfl (sw_true rfl rfl rfl (by decide +kernel)) (pi_list (pv 6)) (blkOk_by (own := [("_law_cell", 9)]) (by kernel_rfl)) (fun _ _ _ _ _ => (pg_name (i := 9) sc_l_cells.nd rfl (.inl rfl))) (fun _ _ _ _ _ => (pts_one (pt_cmpR op_le (pe_op op_mod (pv 9) (pe_ix ix_tup (pv 2) pe_int (fun _ _ => rfl))) (pe_op op_mod (pe_op op_fdiv (pv 4) pe_int) (pe_ix ix_tup (pv 2) pe_int (fun _ _ => rfl))) (nomark _)))) (fun _ _ _ _ _ => (pv 9))))) pss_nil)
      (pss_one (ps_ret (pe_ifExp (pt_cmpR (op_neD hr.units) (pv 6) (pe_lst pa_nil) (nomark _)) (pv 6) (pe_lst (pa_cons (pe_op op_mod (pv 4) (pv 5)) pa_nil))))))))))
set_option maxHeartbeats 4000000 in
theorem ok_is_whole (T : Tx K mg) : FnOk P w K mg base CX0 1 T.f_is_whole T.fd_is_whole ["thing"] (sp_is_whole K) := by
  refine T.F_is_whole.ok sc_is_whole (fun vs H Q E h => by obtain ⟨_, _, rfl, _⟩ := h; rfl) (fun cdv A outer s H vs Q E hr h => ⟨t_is_whole K, ?_, pure_is_whole rfl h⟩)
  exact (pss_one (ps_ret (pe_and (pe_callB call_isi (by rfl) T.n_isinstance (by decide +kernel) (pa_cons (pv 0) (pa_cons (pe_bltn (v := .ty "int") (by rfl) T.n_int (by decide +kernel) rfl) pa_nil))) (pe_one (pe_not (pe_callB call_isi (by rfl) T.n_isinstance (by decide +kernel) (pa_cons (pv 0) (pa_cons (pe_bltn (v := .ty "bool") (by rfl) T.n_bool (by decide +kernel) rfl) pa_nil))))))))
set_option maxHeartbeats 4000000 in
theorem ok_check_grid (T : Tx K mg) : FnOk P w K mg base (L2N.CX P w) 2 T.f_check_grid T.fd_check_grid ["grid"] (sp_check_grid K T.C) := by
  refine Sd.Fun.okN T.F_check_grid sc_check_grid (fun vs H Q E h => by obtain ⟨_, rfl, _⟩ := h; rfl) (fun cdv A outer s H vs Q E hr h => ⟨t_check_grid K T.C E, ?_, pure_check_grid rfl h⟩)
  exact (pss_one (ps_if (PW.pt (pw_or (pt_not (pt_val (pe_callB call_isi (by rfl) T.n_isinstance (by decide +kernel) (pa_cons (pv 0) (pa_cons (pe_bltn (v := .ty "tuple") (by rfl) T.n_tuple (by decide +kernel) rfl) pa_nil))))) (pw_or (pt_cmpR op_ne (pe_callB call_len_seq (by rfl) T.n_len (by decide +kernel) (pa_cons (pv 0) pa_nil)) pe_int (nomark _)) (pw_or1 (pt_not (pt_val (pe_callB (cr_all rfl) (by rfl) T.n_all (by decide +kernel) (pa_cons (pe_lc (own := [("one", 1)]) (g := (gName 1)) (tt := tYes) (te := (tAndV (tCall (sp_is_whole K) [] E0 (tCons (tVar 1) tNil)) (tChain oLe oLe (tC (.int 1)) (tVar 1) (tC (.int 6))))) rfl sc_check_grid.nd (pi_tup (pv 0)) (blkOk_by (own := [("one", 1)]) (by kernel_rfl)) (fun _ _ _ _ _ => (pg_name (i := 1) sc_check_grid.nd rfl (.inl rfl))) (fun _ _ _ _ _ => pts_nil) (fun _ _ _ _ _ => (pe_and (pe_call (ok_is_whole T) (hr.mono (by decide)) rfl T.g_is_whole T.F_is_whole.kp T.b_is_whole .nil pass0 (pa_cons (pv 1) pa_nil)) (pe_one (pe_chain op_le op_le pe_int (pv 1) (pe_glob rfl T.g_MOST ⟨_, rfl⟩)))))) pa_nil)))))))) (pss_one (L2N.ps_raise rfl (L2N.takes_of rfl rfl rfl rfl) (L2N.pmk_own PySem.F.excBase_ValueError T.x_BadGrid T.g_BadGrid T.k_BadGrid (raises_own T.e_BadGrid T.y_BadGrid) (by rfl)))) pss_nil))
set_option maxHeartbeats 4000000 in
theorem ok_check_cells (T : Tx K mg) : FnOk P w K mg base (L2N.CX P w) 2 T.f_check_cells T.fd_check_cells ["grid", "cells"] (sp_check_cells K T.C) := by
  refine Sd.Fun.okN T.F_check_cells sc_check_cells (fun vs H Q E h => by obtain ⟨_, _, _, _, rfl, _⟩ := h; rfl) (fun cdv A outer s H vs Q E hr h => ⟨t_check_cells K T.C E, ?_, pure_check_cells rfl h⟩)
  exact (pss_cons (ps_set (i := 2) sc_check_cells.nd rfl (.inr rfl) (pe_op op_mul (pe_ix ix_tup (pv 0) pe_int (fun _ _ => rfl)) (pe_ix ix_tup (pv 0) pe_int (fun _ _ => rfl))))
      (pss_cons (ps_if (PW.pt (pw_or (pt_not (pt_val (pe_callB call_isi (by rfl) T.n_isinstance (by decide +kernel) (pa_cons (pv 1) (pa_cons (pe_bltn (v := .ty "list") (by rfl) T.n_list (by decide +kernel) rfl) pa_nil))))) (pw_or (pt_cmpR (op_eqD hr.units) (pv 1) (pe_lst pa_nil) (nomark _)) (pw_or1 (pt_not (pt_val (pe_callB (cr_all rfl) (by rfl) T.n_all (by decide +kernel) (pa_cons (pe_lc (own := [("one", 3)]) (g := (gName 3)) (tt := tYes) (te := (tAndV (tCall (sp_is_whole K) [] E0 (tCons (tVar 3) tNil)) (tChain oLe oLt (tC (.int 0)) (tVar 3) (tVar 2)))) rfl sc_check_cells.nd (pi_list (pv 1)) (blkOk_by (own := [("one", 3)]) (by kernel_rfl)) (fun _ _ _ _ _ => (pg_name (i := 3) sc_check_cells.nd rfl (.inl rfl))) (fun _ _ _ _ _ => pts_nil) (fun _ _ _ _ _ => (pe_and (pe_call (ok_is_whole T) (hr.mono (by decide)) rfl T.g_is_whole T.F_is_whole.kp T.b_is_whole .nil pass0 (pa_cons (pv 3) pa_nil)) (pe_one (pe_chain op_le op_lt pe_int (pv 3) (pv 2)))))) pa_nil)))))))) (pss_one (L2N.ps_raise rfl (L2N.takes_of rfl rfl rfl rfl) (L2N.pmk_own PySem.F.excBase_ValueError T.x_BadCells T.g_BadCells T.k_BadCells (raises_own T.e_BadCells T.y_BadCells) (by rfl)))) pss_nil)
      (pss_one (ps_if (pt_val (pe_callB (cr_any rfl) (by rfl) T.n_any (by decide +kernel) (pa_cons (pe_lc (own := [("one", 3), ("other", 4)]) (g := (gTup K 2 (gCons (gName 3) (gCons (gName 4) gNil)))) (tt := tYes) (te := (tOp oGe (tVar 3) (tVar 4))) rfl sc_check_cells.nd (pi_zip (by rfl) T.n_zip (pa_cons (pv 1) (pa_cons (pe_slice sl_list (pv 1) (po_some pe_int) po_none) pa_nil))) (blkOk_by (own := [("one", 3), ("other", 4)]) (by kernel_rfl)) (fun _ _ _ _ _ => (pg_tup rfl (pgs_cons (pg_name (i := 3) sc_check_cells.nd rfl (.inl rfl)) (pgs_cons (pg_name (i := 4) sc_check_cells.nd rfl (.inl rfl)) pgs_nil)))) (fun _ _ _ _ _ => pts_nil) (fun _ _ _ _ _ => (pe_cmpR op_ge (pv 3) (pv 4) (nomark _)))) pa_nil))) (pss_one (L2N.ps_raise rfl (L2N.takes_of rfl rfl rfl rfl) (L2N.pmk_own PySem.F.excBase_ValueError T.x_BadCells T.g_BadCells T.k_BadCells (raises_own T.e_BadCells T.y_BadCells) (by rfl)))) pss_nil))))
set_option maxHeartbeats 4000000 in
theorem ok_beside (T : Tx K mg) : FnOk P w K mg base CX0 1 T.f_beside T.fd_beside ["grid", "cell"] (sp_beside K) := by
  refine T.F_beside.ok sc_beside (fun vs H Q E h => by obtain ⟨_, _, _, _, rfl, _⟩ := h; rfl) (fun cdv A outer s H vs Q E hr h => ⟨t_beside K, ?_, pure_beside rfl h⟩)
  exact (pss_cons (ps_asg (pv 0) (pg_tup rfl (pgs_cons (pg_name (i := 2) sc_beside.nd rfl (.inl rfl)) (pgs_cons (pg_name (i := 3) sc_beside.nd rfl (.inl rfl)) pgs_nil))))
      (pss_cons (ps_set (i := 4) sc_beside.nd rfl (.inl rfl) (pe_lst pa_nil))
      (pss_cons (ps_if (pt_cmpR op_ge (pv 1) (pv 3) (nomark _)) (pss_one (ps_expr (pe_bm PySem.F.plainAttrs_list PySem.F.slot_list_append PySem.F.type_list_append mt_append (pv 4) (pa_cons (pe_op op_sub (pv 1) (pv 3)) pa_nil)))) pss_nil)
      (pss_cons (ps_if (pt_cmpR op_gt (pe_op op_mod (pv 1) (pv 3)) pe_int (nomark _)) (pss_one (ps_expr (pe_bm PySem.F.plainAttrs_list PySem.F.slot_list_append PySem.F.type_list_append mt_append (pv 4) (pa_cons (pe_op op_sub (pv 1) pe_int) pa_nil)))) pss_nil)
      (pss_cons (ps_if (pt_cmpR op_lt (pe_op op_mod (pv 1) (pv 3)) (pe_op op_sub (pv 3) pe_int) (nomark _)) (pss_one (ps_expr (pe_bm PySem.F.plainAttrs_list PySem.F.slot_list_append PySem.F.type_list_append mt_append (pv 4) (pa_cons (pe_op op_add (pv 1) pe_int) pa_nil)))) pss_nil)
      (pss_cons (ps_if (pt_cmpR op_lt (pv 1) (pe_op op_mul (pv 3) (pe_op op_sub (pv 2) pe_int)) (nomark _)) (pss_one (ps_expr (pe_bm PySem.F.plainAttrs_list PySem.F.slot_list_append PySem.F.type_list_append mt_append (pv 4) (pa_cons (pe_op op_add (pv 1) (pv 3)) pa_nil)))) pss_nil)
      (pss_one (ps_ret (pv 4)))))))))
set_option maxHeartbeats 4000000 in
theorem ok_spread (T : Tx K mg) : FnOk P w K mg base CX0 2 T.f_spread T.fd_spread ["grid", "first", "some"] (sp_spread K) := by
  refine T.F_spread.ok sc_spread (fun vs H Q E h => by obtain ⟨_, _, _, _, _, _, rfl, _⟩ := h; rfl) (fun cdv A outer s H vs Q E hr h => ⟨t_spread K, ?_, pure_spread rfl h⟩)
  exact (pss_cons (ps_asg (pe_tup (pa_cons (pe_lst (pa_cons (pv 1) pa_nil)) (pa_cons pe_int pa_nil))) (pg_tup rfl (pgs_cons (pg_name (i := 3) sc_spread.nd rfl (.inr rfl)) (pgs_cons (pg_name (i := 4) sc_spread.nd rfl (.inl rfl)) pgs_nil))))
      (pss_cons (ps_while PassesOwn.never (pt_cmpR op_lt (pv 4) (pe_callB call_len_seq (by rfl) T.n_len (by decide +kernel) (pa_cons (pv 3) pa_nil)) (nomark _)) (pss_cons (ps_expr (pe_bm PySem.F.plainAttrs_list PySem.F.slot_list_extend PySem.F.type_list_extend mt_extend (pv 3) (pa_cons (pe_lc (own := [("one", 5)]) (g := (gName 5)) (tt := (tAnd (tTest (tOp (rIn K false) (tVar 5) (tVar 2))) (tTest (tOp (rIn K true) (tVar 5) (tVar 3))))) (te := (tVar 5)) rfl sc_spread.nd (pi_list (pe_call (ok_beside T) (hr.mono (by decide)) rfl T.g_beside T.F_beside.kp T.b_beside .nil pass0 (pa_cons (pv 0) (pa_cons (pe_ix ix_list (pv 3) (pv 4) (fun _ _ => rfl)) pa_nil)))) (blkOk_by (own := [("one", 5)]) (by kernel_rfl)) (fun _ _ _ _ _ => (pg_name (i := 5) sc_spread.nd rfl (.inl rfl))) (fun _ _ _ _ _ => (pts_one (PW.pt (pw_and (pt_cmpR op_in_seq (pv 5) (pv 2) (by rfl)) (pw_and1 (pt_cmpR op_notIn_seq (pv 5) (pv 3) (by rfl))))))) (fun _ _ _ _ _ => (pv 5))) pa_nil)))
      (pss_one (ps_aug (i := 4) sc_spread.nd rfl (.inl rfl) pe_int ip_add))))
      (pss_one (ps_ret (pv 3)))))
set_option maxHeartbeats 4000000 in
theorem ok_is_inner (T : Tx K mg) : FnOk P w K mg base CX0 3 T.f_is_inner T.fd_is_inner ["grid", "cells", "cell"] (sp_is_inner K) := by
  refine T.F_is_inner.ok sc_is_inner (fun vs H Q E h => by obtain ⟨_, _, _, _, _, _, rfl, _⟩ := h; rfl) (fun cdv A outer s H vs Q E hr h => ⟨t_is_inner K, ?_, pure_is_inner rfl h⟩)
  exact (pss_cons (ps_asg (pv 0) (pg_tup rfl (pgs_cons (pg_name (i := 3) sc_is_inner.nd rfl (.inl rfl)) (pgs_cons (pg_name (i := 4) sc_is_inner.nd rfl (.inl rfl)) pgs_nil))))
      (pss_cons (ps_setLc (i := 5) (own := [("one", 6)]) (g := (gName 6)) (tt := (tTest (tOp (rIn K true) (tVar 6) (tVar 1)))) (te := (tVar 6)) rfl sc_is_inner.nd rfl rfl (sw_true rfl rfl rfl (by decide +kernel)) (pi_range1 rfl T.n_range (pa_cons (pe_op op_mul (pv 3) (pv 4)) pa_nil)) (blkOk_by (own := [("one", 6)]) (by kernel_rfl)) (fun _ _ _ _ _ => (pg_name (i := 6) sc_is_inner.nd rfl (.inl rfl))) (fun _ _ _ _ _ => (pts_one (pt_cmpR op_notIn_seq (pv 6) (pv 1) (by rfl)))) (fun _ _ _ _ _ => (pv 6)))
      (pss_cons (ps_for PassesOwn.never rfl (pi_list (pe_call (ok_spread T) (hr.mono (by decide)) rfl T.g_spread T.F_spread.kp T.b_spread .nil pass0 (pa_cons (pv 0) (pa_cons (pv 2) (pa_cons (pv 5) pa_nil))))) (pg_name (i := 6) sc_is_inner.nd rfl (.inl rfl)) (pss_one (ps_if (PW.pt (pw_or (pt_cmpR op_lt (pv 6) (pv 4) (nomark _)) (pw_or (pt_cmpR op_ge (pv 6) (pe_op op_mul (pv 4) (pe_op op_sub (pv 3) pe_int)) (nomark _)) (pw_or1 (pt_cmpR op_in_seq (pe_op op_mod (pv 6) (pv 4)) (pe_tup (pa_cons pe_int (pa_cons (pe_op op_sub (pv 4) pe_int) pa_nil))) (by rfl)))))) (pss_one (ps_ret pe_bl)) pss_nil)))
      (pss_one (ps_ret pe_bl)))))
set_option maxHeartbeats 4000000 in
theorem ok_first_inner (T : Tx K mg) : FnOk P w K mg base CX0 4 T.f_first_inner T.fd_first_inner ["grid", "cells"] (sp_first_inner K) := by
  refine T.F_first_inner.ok sc_first_inner (fun vs H Q E h => by obtain ⟨_, _, _, _, _, rfl, _⟩ := h; rfl) (fun cdv A outer s H vs Q E hr h => ⟨t_first_inner K, ?_, pure_first_inner rfl h⟩)
  exact (pss_cons (ps_for PassesOwn.never rfl (pi_range1 rfl T.n_range (pa_cons (pe_op op_mul (pe_ix ix_tup (pv 0) pe_int (fun _ _ => rfl)) (pe_ix ix_tup (pv 0) pe_int (fun _ _ => rfl))) pa_nil)) (pg_name (i := 2) sc_first_inner.nd rfl (.inl rfl)) (pss_one (ps_if (PW.pt (pw_and (pt_cmpR op_notIn_seq (pv 2) (pv 1) (by rfl)) (pw_and1 (pt_val (pe_call (ok_is_inner T) (hr.mono (by decide)) rfl T.g_is_inner T.F_is_inner.kp T.b_is_inner .nil pass0 (pa_cons (pv 0) (pa_cons (pv 1) (pa_cons (pv 2) pa_nil)))))))) (pss_one (ps_ret (pv 2))) pss_nil)))
      (pss_one (ps_ret pe_non)))
set_option maxHeartbeats 4000000 in
theorem ok_is_ring (T : Tx K mg) : FnOk P w K mg base CX0 5 T.f_is_ring T.fd_is_ring ["grid", "cells"] (sp_is_ring K) := by
  refine T.F_is_ring.ok sc_is_ring (fun vs H Q E h => by obtain ⟨_, _, _, _, _, rfl, _⟩ := h; rfl) (fun cdv A outer s H vs Q E hr h => ⟨t_is_ring K, ?_, pure_is_ring rfl h⟩)
  exact (pss_cons (ps_if (pt_cmpR op_lt (pe_callB call_len_seq (by rfl) T.n_len (by decide +kernel) (pa_cons (pe_call (ok_spread T) (hr.mono (by decide)) rfl T.g_spread T.F_spread.kp T.b_spread .nil pass0 (pa_cons (pv 0) (pa_cons (pe_ix ix_list (pv 1) pe_int (fun _ _ => rfl)) (pa_cons (pv 1) pa_nil)))) pa_nil)) (pe_callB call_len_seq (by rfl) T.n_len (by decide +kernel) (pa_cons (pv 1) pa_nil)) (nomark _)) (pss_one (ps_ret pe_bl)) pss_nil)
      (pss_one (ps_ret (pe_cmpR op_isN1 (pe_call (ok_first_inner T) (hr.mono (by decide)) rfl T.g_first_inner T.F_first_inner.kp T.b_first_inner .nil pass0 (pa_cons (pv 0) (pa_cons (pv 1) pa_nil))) pe_non (nomark _)))))
set_option maxHeartbeats 4000000 in
theorem ok_side_ahead (T : Tx K mg) : FnOk P w K mg base CX0 1 T.f_side_ahead T.fd_side_ahead ["grid", "cells", "point", "turn"] (sp_side_ahead K) := by
  refine T.F_side_ahead.ok sc_side_ahead (fun vs H Q E h => by obtain ⟨_, _, _, _, _, _, _, _, _, rfl, _⟩ := h; rfl) (fun cdv A outer s H vs Q E hr h => ⟨t_side_ahead K, ?_, pure_side_ahead rfl h⟩)
  exact (pss_cons (ps_asg (pv 0) (pg_tup rfl (pgs_cons (pg_name (i := 4) sc_side_ahead.nd rfl (.inl rfl)) (pgs_cons (pg_name (i := 5) sc_side_ahead.nd rfl (.inl rfl)) pgs_nil))))
      (pss_cons (ps_asg (pv 2) (pg_tup rfl (pgs_cons (pg_name (i := 6) sc_side_ahead.nd rfl (.inl rfl)) (pgs_cons (pg_name (i := 7) sc_side_ahead.nd rfl (.inl rfl)) pgs_nil))))
      (pss_cons (ps_set (i := 8) sc_side_ahead.nd rfl (.inl rfl) (pe_tup (pa_cons (pe_tup (pa_cons (pe_tup (pa_cons (pe_op op_sub (pv 6) pe_int) (pa_cons (pv 7) pa_nil))) (pa_cons (pe_tup (pa_cons (pv 6) (pa_cons (pv 7) pa_nil))) pa_nil))) (pa_cons (pe_tup (pa_cons (pe_tup (pa_cons (pv 6) (pa_cons (pv 7) pa_nil))) (pa_cons (pe_tup (pa_cons (pv 6) (pa_cons (pe_op op_sub (pv 7) pe_int) pa_nil))) pa_nil))) (pa_cons (pe_tup (pa_cons (pe_tup (pa_cons (pv 6) (pa_cons (pe_op op_sub (pv 7) pe_int) pa_nil))) (pa_cons (pe_tup (pa_cons (pe_op op_sub (pv 6) pe_int) (pa_cons (pe_op op_sub (pv 7) pe_int) pa_nil))) pa_nil))) (pa_cons (pe_tup (pa_cons (pe_tup (pa_cons (pe_op op_sub (pv 6) pe_int) (pa_cons (pe_op op_sub (pv 7) pe_int) pa_nil))) (pa_cons (pe_tup (pa_cons (pe_op op_sub (pv 6) pe_int) (pa_cons (pv 7) pa_nil))) pa_nil))) pa_nil))))))
      (pss_cons (ps_set (i := 9) sc_side_ahead.nd rfl (.inl rfl) (pe_lst pa_nil))
      (pss_cons (ps_for PassesOwn.never rfl (pi_tup (pe_ix ix_tup (pv 8) (pv 3) (fun _ _ => rfl))) (pg_tup rfl (pgs_cons (pg_name (i := 10) sc_side_ahead.nd rfl (.inl rfl)) (pgs_cons (pg_name (i := 11) sc_side_ahead.nd rfl (.inl rfl)) pgs_nil))) (pss_one (ps_expr (pe_bm PySem.F.plainAttrs_list PySem.F.slot_list_append PySem.F.type_list_append mt_append (pv 9) (pa_cons (pe_and (pe_chain op_le op_lt pe_int (pv 10) (pv 4)) (pe_and (pe_chain op_le op_lt pe_int (pv 11) (pv 5)) (pe_one (pe_cmpR op_in_seq (pe_op op_add (pe_op op_mul (pv 10) (pv 5)) (pv 11)) (pv 1) (by rfl))))) pa_nil)))))
      (pss_one (ps_ret (pe_cmpR op_ne (pe_ix ix_list (pv 9) pe_int (fun _ _ => rfl)) (pe_ix ix_list (pv 9) pe_int (fun _ _ => rfl)) (nomark _)))))))))
set_option maxHeartbeats 4000000 in
theorem ok_walk (T : Tx K mg) : FnOk P w K mg base (L2N.CX P w) 6 T.f_walk T.fd_walk ["grid", "cells"] (sp_walk K T.C) := by
  refine Sd.Fun.okN T.F_walk sc_walk (fun vs H Q E h => by obtain ⟨_, _, rfl, _⟩ := h; rfl) (fun cdv A outer s H vs Q E hr h => ⟨t_walk K T.C E, ?_, pure_walk rfl h⟩)
  exact (pss_cons (ps_expr (pe_call (ok_check_grid T) (hr.mono (by decide)) rfl T.g_check_grid T.F_check_grid.kp T.b_check_grid .nil (L2N.passes_call (L2N.takes_of rfl rfl rfl rfl) (fun _ _ _ _ h => h)) (pa_cons (pv 0) pa_nil)))
      (pss_cons (ps_expr (pe_call (ok_check_cells T) (hr.mono (by decide)) rfl T.g_check_cells T.F_check_cells.kp T.b_check_cells .nil (L2N.passes_call (L2N.takes_of rfl rfl rfl rfl) (fun _ _ _ _ h => h)) (pa_cons (pv 0) (pa_cons (pv 1) pa_nil))))
      (pss_cons (ps_if (pt_not (pt_val (pe_call (ok_is_ring T) (hr.mono (by decide)) rfl T.g_is_ring T.F_is_ring.kp T.b_is_ring .nil pass0 (pa_cons (pv 0) (pa_cons (pv 1) pa_nil))))) (pss_one (L2N.ps_raise rfl (L2N.takes_of rfl rfl rfl rfl) (L2N.pmk_own PySem.F.excBase_ValueError T.x_NoRing T.g_NoRing T.k_NoRing (raises_own T.e_NoRing T.y_NoRing) (by rfl)))) pss_nil)
      (pss_cons (ps_set (i := 2) sc_walk.nd rfl (.inl rfl) (pe_tup (pa_cons (pe_op op_fdiv (pe_ix ix_list (pv 1) pe_int (fun _ _ => rfl)) (pe_ix ix_tup (pv 0) pe_int (fun _ _ => rfl))) (pa_cons (pe_op op_mod (pe_ix ix_list (pv 1) pe_int (fun _ _ => rfl)) (pe_ix ix_tup (pv 0) pe_int (fun _ _ => rfl))) pa_nil))))
      (pss_cons (ps_set (i := 3) sc_walk.nd rfl (.inl rfl) (pe_tup (pa_cons (pe_tup (pa_cons pe_int (pa_cons pe_int pa_nil))) (pa_cons (pe_tup (pa_cons pe_int (pa_cons pe_int pa_nil))) (pa_cons (pe_tup (pa_cons pe_int (pa_cons (pe_un un_neg pe_int) pa_nil))) (pa_cons (pe_tup (pa_cons (pe_un un_neg pe_int) (pa_cons pe_int pa_nil))) pa_nil))))))
      (pss_cons (ps_par (i := 4) (j := 5) (by rfl) sc_walk.nd rfl rfl (by decide) rfl rfl (pa_cons (pe_lst (pa_cons (pv 2) pa_nil)) (pa_cons pe_int pa_nil)) (by rfl))
      (pss_cons (ps_set (i := 6) sc_walk.nd rfl (.inr rfl) (pe_tup (pa_cons (pe_ix ix_tup (pv 2) pe_int (fun _ _ => rfl)) (pa_cons (pe_op op_add (pe_ix ix_tup (pv 2) pe_int (fun _ _ => rfl)) pe_int) pa_nil))))
      (pss_cons (ps_while (passes_of rfl) (pt_cmpR (op_neD hr.units) (pv 6) (pv 2) (nomark _)) (pss_cons (ps_expr (pe_bm PySem.F.plainAttrs_list PySem.F.slot_list_append PySem.F.type_list_append mt_append (pv 4) (pa_cons (pv 6) pa_nil)))
      (pss_cons (ps_set (i := 7) sc_walk.nd rfl (.inr rfl) (pe_op op_mod (pe_op op_add (pv 5) pe_int) pe_int))
      (pss_cons (ps_set (i := 5) sc_walk.nd rfl (.inl rfl) (pe_ix ix_list (pe_lc (own := [("way", 8)]) (g := (gName 8)) (tt := (tAnd (tTest (tOp rNe (tVar 8) (tVar 7))) (tB (tCall (sp_side_ahead K) [] E0 (tCons (tVar 0) (tCons (tVar 1) (tCons (tVar 6) (tCons (tVar 8) tNil)))))))) (te := (tVar 8)) rfl sc_walk.nd (pi_range1 rfl T.n_range (pa_cons pe_int pa_nil)) (blkOk_by (own := [("way", 8)]) (by kernel_rfl)) (fun _ _ _ _ _ => (pg_name (i := 8) sc_walk.nd rfl (.inl rfl))) (fun _ _ _ _ _ => (pts_one (PW.pt (pw_and (pt_cmpR op_ne (pv 8) (pv 7) (nomark _)) (pw_and1 (pt_val (pe_call (ok_side_ahead T) (hr.mono (by decide)) rfl T.g_side_ahead T.F_side_ahead.kp T.b_side_ahead .nil pass0 (pa_cons (pv 0) (pa_cons (pv 1) (pa_cons (pv 6) (pa_cons (pv 8) pa_nil))))))))))) (fun _ _ _ _ _ => (pv 8))) pe_int (fun _ _ => rfl)))
      (pss_one (ps_set (i := 6) sc_walk.nd rfl (.inr rfl) (pe_tup (pa_cons (pe_op op_add (pe_ix ix_tup (pv 6) pe_int (fun _ _ => rfl)) (pe_ix ix_tup (pe_ix ix_tup (pv 3) (pv 5) (fun _ _ => rfl)) pe_int (fun _ _ => rfl))) (pa_cons (pe_op op_add (pe_ix ix_tup (pv 6) pe_int (fun _ _ => rfl)) (pe_ix ix_tup (pe_ix ix_tup (pv 3) (pv 5) (fun _ _ => rfl)) pe_int (fun _ _ => rfl))) pa_nil)))))))))
      (pss_one (ps_ret (pv 4)))))))))))
set_option maxHeartbeats 4000000 in
theorem ok_l_refused (T : Tx K mg) : FnOk P w K mg base CX0 7 T.f_l_refused T.fd_l_refused ["_law_grid_here", "_law_cells_here"] (sp_l_refused K T.C) := by
  refine T.F_l_refused.ok sc_l_refused (fun vs H Q E h => by obtain ⟨_, _, _, _, _, rfl, _⟩ := h; rfl) (fun cdv A outer s H vs Q E hr h => ⟨t_l_refused K T.C, ?_, pure_l_refused rfl rfl T.ex_NoRing T.em_NoRing T.ki_NoRing_BadCells T.ki_NoRing_BadClues T.ki_NoRing_BadGrid T.ki_NoRing_NoRing h⟩)
  exact (pss_cons (ps_tryN (i := 2) rfl rfl sc_l_refused.nd rfl rfl rfl (by decide) T.g_RingError (fun W pn xe tk _ => (pss_one (ps_expr (pe_callS (ok_walk T) (hr.mono (by decide)) rfl T.g_walk T.F_walk.kp T.b_walk (fun σ => L2N.passAt tk σ) (pa_cons (pv 0) (pa_cons (pv 1) pa_nil)))))) (fun ea oe ec ed pn hz hf => (pss_cons (ps_set (i := 3) sc_l_refused.nd rfl (.inl rfl) (pe_lst (pa_cons (pe_callB (call_isX hz.zc hf) (by rfl) T.n_isinstance (by decide +kernel) (pa_cons (pv 2) (pa_cons (pe_glob rfl T.g_BadCells rfl) pa_nil))) (pa_cons (pe_callB (call_isX hz.zc hf) (by rfl) T.n_isinstance (by decide +kernel) (pa_cons (pv 2) (pa_cons (pe_glob rfl T.g_BadClues rfl) pa_nil))) (pa_cons (pe_callB (call_isX hz.zc hf) (by rfl) T.n_isinstance (by decide +kernel) (pa_cons (pv 2) (pa_cons (pe_glob rfl T.g_BadGrid rfl) pa_nil))) pa_nil)))))
      (pss_one (ps_ret (pe_and (pe_callB (call_isX hz.zc hf) (by rfl) T.n_isinstance (by decide +kernel) (pa_cons (pv 2) (pa_cons (pe_glob rfl T.g_NoRing rfl) pa_nil))) (pe_one (pe_not (pe_callB (cr_anyH (hotC_suite hz hf)) (by rfl) T.n_any (by decide +kernel) (pa_cons (pv 3) pa_nil))))))))))
      (pss_one (ps_ret pe_bl)))
set_option maxHeartbeats 4000000 in
theorem ok_l_whole (T : Tx K mg) : FnOk P w K mg base CX0 1 T.f_l_whole T.fd_l_whole ["_law_found"] (sp_l_whole K) := by
  refine T.F_l_whole.ok sc_l_whole (fun vs H Q E h => by obtain ⟨_, _, rfl, _⟩ := h; rfl) (fun cdv A outer s H vs Q E hr h => ⟨t_l_whole K, ?_, pure_l_whole rfl rfl h⟩)
  exact (pss_one (ps_ret (pe_and (pe_callB call_isi (by rfl) T.n_isinstance (by decide +kernel) (pa_cons (pv 0) (pa_cons (pe_bltn (v := .ty "int") (by rfl) T.n_int (by decide +kernel) rfl) pa_nil))) (pe_one (pe_not (pe_callB call_isi (by rfl) T.n_isinstance (by decide +kernel) (pa_cons (pv 0) (pa_cons (pe_bltn (v := .ty "bool") (by rfl) T.n_bool (by decide +kernel) rfl) pa_nil))))))))
set_option maxHeartbeats 4000000 in
theorem ok_l_right (T : Tx K mg) : FnOk P w K mg base CX0 8 T.f_l_right T.fd_l_right ["_law_grid_here", "_law_cells_here"] (sp_l_right K T.C) := by
  refine T.F_l_right.ok sc_l_right (fun vs H Q E h => by obtain ⟨_, _, _, _, _, rfl, _⟩ := h; rfl) (fun cdv A outer s H vs Q E hr h => ⟨t_l_right K T.C, ?_, pure_l_right rfl rfl h⟩)
  exact (pss_cons (ps_set (i := 2) sc_l_right.nd rfl (.inl rfl) (pe_callTy call_list_of (by rfl) T.n_list (by decide +kernel) (pa_cons (pv 1) pa_nil)))
      (pss_cons (ps_if (pt_not (pt_val (pe_call (ok_l_is_ring T) (hr.mono (by decide)) rfl T.g_l_is_ring T.F_l_is_ring.kp T.b_l_is_ring .nil pass0 (pa_cons (pv 0) (pa_cons (pv 1) pa_nil))))) (pss_one (ps_ret (pe_and (pe_call (ok_l_refused T) (hr.mono (by decide)) rfl T.g_l_refused T.F_l_refused.kp T.b_l_refused .nil pass0 (pa_cons (pv 0) (pa_cons (pv 2) pa_nil))) (pe_one (pe_cmpR (op_eqD hr.units) (pv 2) (pv 1) (nomark _)))))) pss_nil)
      (pss_cons (ps_set (i := 3) sc_l_right.nd rfl (.inl rfl) (pe_callB (cr_sortV (enc := dSd2) hr.units) (by rfl) T.n_sorted (by decide +kernel) (pa_cons (pe_call (ok_l_sides T) (hr.mono (by decide)) rfl T.g_l_sides T.F_l_sides.kp T.b_l_sides .nil pass0 (pa_cons (pv 0) (pa_cons (pv 1) pa_nil))) pa_nil)))
      (pss_cons (ps_for PassesOwn.never rfl (pi_range1 rfl T.n_range (pa_cons pe_int pa_nil)) (pg_name (i := 4) sc_l_right.nd rfl (.inl rfl)) (pss_cons (ps_set (i := 5) sc_l_right.nd rfl (.inl rfl) (pe_call (ok_walk T) (hr.mono (by decide)) rfl T.g_walk T.F_walk.kp T.b_walk .nil passN (pa_cons (pv 0) (pa_cons (pv 2) pa_nil))))
      (pss_cons (ps_if (PW.pt (pw_or (pt_not (pt_val (pe_callB call_isi (by rfl) T.n_isinstance (by decide +kernel) (pa_cons (pv 5) (pa_cons (pe_bltn (v := .ty "list") (by rfl) T.n_list (by decide +kernel) rfl) pa_nil))))) (pw_or (pt_cmpR (op_neD hr.units) (pv 2) (pv 1) (nomark _)) (pw_or1 (pt_cmpR op_ne (pe_callB call_len_seq (by rfl) T.n_len (by decide +kernel) (pa_cons (pv 5) pa_nil)) (pe_callB call_len_seq (by rfl) T.n_len (by decide +kernel) (pa_cons (pv 3) pa_nil)) (nomark _)))))) (pss_one (ps_ret pe_bl)) pss_nil)
      (pss_cons (ps_setLc (i := 6) (own := [("_law_one", 7), ("_law_other", 8)]) (g := (gTup K 2 (gCons (gName 7) (gCons (gName 8) gNil)))) (tt := tYes) (te := (tTup (tCons (tCB (rMin2V dPt K) (tCons (tVar 7) (tCons (tVar 8) tNil))) (tCons (tCB (rMax2V dPt K) (tCons (tVar 7) (tCons (tVar 8) tNil))) tNil)))) rfl sc_l_right.nd rfl rfl (sw_true rfl rfl rfl (by decide +kernel)) (pi_zip (by rfl) T.n_zip (pa_cons (pv 5) (pa_cons (pe_op op_cat (pe_slice sl_list (pv 5) (po_some pe_int) po_none) (pe_slice sl_list (pv 5) po_none (po_some pe_int))) pa_nil))) (blkOk_by (own := [("_law_one", 7), ("_law_other", 8)]) (by kernel_rfl)) (fun _ _ _ _ _ => (pg_tup rfl (pgs_cons (pg_name (i := 7) sc_l_right.nd rfl (.inl rfl)) (pgs_cons (pg_name (i := 8) sc_l_right.nd rfl (.inl rfl)) pgs_nil)))) (fun _ _ _ _ _ => pts_nil) (fun _ _ _ _ _ => (pe_tup (pa_cons (pe_callB (cr_min2V (enc := dPt) rfl hr.units) (by rfl) T.n_min (by decide +kernel) (pa_cons (pv 7) (pa_cons (pv 8) pa_nil))) (pa_cons (pe_callB (cr_max2V (enc := dPt) rfl hr.units) (by rfl) T.n_max (by decide +kernel) (pa_cons (pv 7) (pa_cons (pv 8) pa_nil))) pa_nil)))))
      (pss_cons (ps_if (PW.pt (pw_or (pt_cmpR (op_neD hr.units) (pe_callB (cr_sortV (enc := dSd2) hr.units) (by rfl) T.n_sorted (by decide +kernel) (pa_cons (pv 6) pa_nil)) (pv 3) (nomark _)) (pw_or (pt_cmpR (op_neD hr.units) (pe_ix ix_list (pv 5) pe_int (fun _ _ => rfl)) (pe_callB (cr_minV (enc := dPt) rfl hr.units) (by rfl) T.n_min (by decide +kernel) (pa_cons (pv 5) pa_nil)) (nomark _)) (pw_or1 (pt_cmpR (op_neD hr.units) (pe_ix ix_list (pv 5) pe_int (fun _ _ => rfl)) (pe_tup (pa_cons (pe_ix ix_tup (pe_ix ix_list (pv 5) pe_int (fun _ _ => rfl)) pe_int (fun _ _ => rfl)) (pa_cons (pe_op op_add (pe_ix ix_tup (pe_ix ix_list (pv 5) pe_int (fun _ _ => rfl)) pe_int (fun _ _ => rfl)) pe_int) pa_nil))) (nomark _)))))) (pss_one (ps_ret pe_bl)) pss_nil)
      (pss_cons (ps_if (pt_not (pt_val (pe_callB (cr_all rfl) (by rfl) T.n_all (by decide +kernel) (pa_cons (pe_lc (own := [("_law_point", 9)]) (g := (gName 9)) (tt := tYes) (te := (tAndV (tCB (rIsi K) (tCons (tVar 9) (tCons (tC (.ty "tuple")) tNil))) (tAndV (tCall (sp_l_whole K) [] E0 (tCons (tOp (rIxT K) (tVar 9) (tC (.int 0))) tNil)) (tCall (sp_l_whole K) [] E0 (tCons (tOp (rIxT K) (tVar 9) (tC (.int 1))) tNil))))) rfl sc_l_right.nd (pi_list (pv 5)) (blkOk_by (own := [("_law_point", 9)]) (by kernel_rfl)) (fun _ _ _ _ _ => (pg_name (i := 9) sc_l_right.nd rfl (.inl rfl))) (fun _ _ _ _ _ => pts_nil) (fun _ _ _ _ _ => (pe_and (pe_callB call_isi (by rfl) T.n_isinstance (by decide +kernel) (pa_cons (pv 9) (pa_cons (pe_bltn (v := .ty "tuple") (by rfl) T.n_tuple (by decide +kernel) rfl) pa_nil))) (pe_and (pe_call (ok_l_whole T) (hr.mono (by decide)) rfl T.g_l_whole T.F_l_whole.kp T.b_l_whole .nil pass0 (pa_cons (pe_ix ix_tup (pv 9) pe_int (fun _ _ => rfl)) pa_nil)) (pe_one (pe_call (ok_l_whole T) (hr.mono (by decide)) rfl T.g_l_whole T.F_l_whole.kp T.b_l_whole .nil pass0 (pa_cons (pe_ix ix_tup (pv 9) pe_int (fun _ _ => rfl)) pa_nil))))))) pa_nil)))) (pss_one (ps_ret pe_bl)) pss_nil)
      (pss_one (ps_expr (pe_bm PySem.F.plainAttrs_list PySem.F.slot_list_append PySem.F.type_list_append mt_append (pv 5) (pa_cons (pe_tup (pa_cons pe_int (pa_cons pe_int pa_nil))) pa_nil))))))))))
      (pss_one (ps_ret pe_bl))))))
set_option maxHeartbeats 4000000 in
theorem ok_law (T : Tx K mg) : FnOk P w K mg base CX0 9 T.f_law T.fd_law ["_law_script"] (sp_law K) := by
  refine T.F_law.ok sc_law (fun vs H Q E h => by obtain ⟨_, _, rfl, _⟩ := h; rfl) (fun cdv A outer s H vs Q E hr h => ⟨t_law K T.C, ?_, pure_law rfl rfl h⟩)
  exact (pss_cons (ps_for PassesOwn.never rfl (pi_range1 rfl T.n_range (pa_cons pe_int pa_nil)) (pg_name (i := 1) sc_law.nd rfl (.inl rfl)) (pss_cons (ps_set (i := 2) sc_law.nd rfl (.inl rfl) (pe_call (ok_l_grid T) (hr.mono (by decide)) rfl T.g_l_grid T.F_l_grid.kp T.b_l_grid .nil pass0 (pa_cons (pe_call (ok_l_number T) (hr.mono (by decide)) rfl T.g_l_number T.F_l_number.kp T.b_l_number .nil pass0 (pa_cons (pe_callB (cr_sum rfl) (by rfl) T.n_sum (by decide +kernel) (pa_cons (pe_slice sl_list (pv 0) po_none (po_some pe_int)) pa_nil)) (pa_cons (pe_op op_add (pv 1) pe_int) (pa_cons pe_int pa_nil)))) (pa_cons pe_int pa_nil))))
      (pss_one (ps_for PassesOwn.never rfl (pi_list (pe_lst (pa_cons (pe_call (ok_l_grown T) (hr.mono (by decide)) rfl T.g_l_grown T.F_l_grown.kp T.b_l_grown .nil pass0 (pa_cons (pv 0) (pa_cons (pv 1) (pa_cons (pv 2) pa_nil)))) (pa_cons (pe_call (ok_l_cells T) (hr.mono (by decide)) rfl T.g_l_cells T.F_l_cells.kp T.b_l_cells .nil pass0 (pa_cons (pv 0) (pa_cons (pv 1) (pa_cons (pv 2) pa_nil)))) (pa_cons (pe_listRg rfl (by rfl) T.n_list (prg_1 (by rfl) T.n_range (pe_op op_mul (pe_ix ix_tup (pv 2) pe_int (fun _ _ => rfl)) (pe_ix ix_tup (pv 2) pe_int (fun _ _ => rfl))))) pa_nil))))) (pg_name (i := 3) sc_law.nd rfl (.inl rfl)) (pss_one (ps_if (pt_not (pt_val (pe_call (ok_l_right T) (hr.mono (by decide)) rfl T.g_l_right T.F_l_right.kp T.b_l_right .nil pass0 (pa_cons (pv 2) (pa_cons (pv 3) pa_nil))))) (pss_one (ps_ret pe_bl)) pss_nil))))))
      (pss_one (ps_ret (pe_and (pe_cmpR (op_eqD hr.units) (pe_call (ok_walk T) (hr.mono (by decide)) rfl T.g_walk T.F_walk.kp T.b_walk .nil passN (pa_cons (pe_tup (pa_cons pe_int (pa_cons pe_int pa_nil))) (pa_cons (pe_lst (pa_cons pe_int (pa_cons pe_int pa_nil))) pa_nil))) (pe_lst (pa_cons (pe_tup (pa_cons pe_int (pa_cons pe_int pa_nil))) (pa_cons (pe_tup (pa_cons pe_int (pa_cons pe_int pa_nil))) (pa_cons (pe_tup (pa_cons pe_int (pa_cons pe_int pa_nil))) (pa_cons (pe_tup (pa_cons pe_int (pa_cons pe_int pa_nil))) (pa_cons (pe_tup (pa_cons pe_int (pa_cons pe_int pa_nil))) (pa_cons (pe_tup (pa_cons pe_int (pa_cons pe_int pa_nil))) pa_nil))))))) (nomark _)) (pe_one (pe_call (ok_l_refused T) (hr.mono (by decide)) rfl T.g_l_refused T.F_l_refused.kp T.b_l_refused .nil pass0 (pa_cons (pe_tup (pa_cons pe_int (pa_cons pe_int pa_nil))) (pa_cons (pe_lst (pa_cons pe_int (pa_cons pe_int pa_nil))) pa_nil))))))))
end
theorem all_mk {l : PySem.W.OpenLaw} {w : World} {K : PySem.W.Frag} {h : Heap} {mg : Str → Option Value} {fa : Addr} {a_cBadGrid a_cBadCells a_cNoRing a_cRingError a_cBadClues : Addr} (X : K.In h) (G : h.Ns mainGlobals mg) (hfa : mg "law" = some (.ref fa))
    {oc_l_grid kV_l_grid dc_l_grid pm_l_grid cd_l_grid ct_l_grid : Value} {od_l_grid an_l_grid : Option Addr} {sl_l_grid : Array (Option Value)} {f_l_grid : Addr}
    {oc_l_number kV_l_number dc_l_number pm_l_number cd_l_number ct_l_number : Value} {od_l_number an_l_number : Option Addr} {sl_l_number : Array (Option Value)} {f_l_number : Addr}
    {oc_l_beside kV_l_beside dc_l_beside pm_l_beside cd_l_beside ct_l_beside : Value} {od_l_beside an_l_beside : Option Addr} {sl_l_beside : Array (Option Value)} {f_l_beside : Addr}
    {oc_l_sides kV_l_sides dc_l_sides pm_l_sides cd_l_sides ct_l_sides : Value} {od_l_sides an_l_sides : Option Addr} {sl_l_sides : Array (Option Value)} {f_l_sides : Addr}
    {oc_l_points kV_l_points dc_l_points pm_l_points cd_l_points ct_l_points : Value} {od_l_points an_l_points : Option Addr} {sl_l_points : Array (Option Value)} {f_l_points : Addr}
    {oc_l_is_ring kV_l_is_ring dc_l_is_ring pm_l_is_ring cd_l_is_ring ct_l_is_ring : Value} {od_l_is_ring an_l_is_ring : Option Addr} {sl_l_is_ring : Array (Option Value)} {f_l_is_ring : Addr}
    {oc_l_grown kV_l_grown dc_l_grown pm_l_grown cd_l_grown ct_l_grown : Value} {od_l_grown an_l_grown : Option Addr} {sl_l_grown : Array (Option Value)} {f_l_grown : Addr}
    {oc_l_cells kV_l_cells dc_l_cells pm_l_cells cd_l_cells ct_l_cells : Value} {od_l_cells an_l_cells : Option Addr} {sl_l_cells : Array (Option Value)} {f_l_cells : Addr}
    {oc_is_whole kV_is_whole dc_is_whole pm_is_whole cd_is_whole ct_is_whole : Value} {od_is_whole an_is_whole : Option Addr} {sl_is_whole : Array (Option Value)} {f_is_whole : Addr}
    {oc_check_grid kV_check_grid dc_check_grid pm_check_grid cd_check_grid ct_check_grid : Value} {od_check_grid an_check_grid : Option Addr} {sl_check_grid : Array (Option Value)} {f_check_grid : Addr}
    {oc_check_cells kV_check_cells dc_check_cells pm_check_cells cd_check_cells ct_check_cells : Value} {od_check_cells an_check_cells : Option Addr} {sl_check_cells : Array (Option Value)} {f_check_cells : Addr}
    {oc_beside kV_beside dc_beside pm_beside cd_beside ct_beside : Value} {od_beside an_beside : Option Addr} {sl_beside : Array (Option Value)} {f_beside : Addr}
    {oc_spread kV_spread dc_spread pm_spread cd_spread ct_spread : Value} {od_spread an_spread : Option Addr} {sl_spread : Array (Option Value)} {f_spread : Addr}
    {oc_is_inner kV_is_inner dc_is_inner pm_is_inner cd_is_inner ct_is_inner : Value} {od_is_inner an_is_inner : Option Addr} {sl_is_inner : Array (Option Value)} {f_is_inner : Addr}
    {oc_first_inner kV_first_inner dc_first_inner pm_first_inner cd_first_inner ct_first_inner : Value} {od_first_inner an_first_inner : Option Addr} {sl_first_inner : Array (Option Value)} {f_first_inner : Addr}
    {oc_is_ring kV_is_ring dc_is_ring pm_is_ring cd_is_ring ct_is_ring : Value} {od_is_ring an_is_ring : Option Addr} {sl_is_ring : Array (Option Value)} {f_is_ring : Addr}
    {oc_side_ahead kV_side_ahead dc_side_ahead pm_side_ahead cd_side_ahead ct_side_ahead : Value} {od_side_ahead an_side_ahead : Option Addr} {sl_side_ahead : Array (Option Value)} {f_side_ahead : Addr}
    {oc_walk kV_walk dc_walk pm_walk cd_walk ct_walk : Value} {od_walk an_walk : Option Addr} {sl_walk : Array (Option Value)} {f_walk : Addr}
    {oc_l_refused kV_l_refused dc_l_refused pm_l_refused cd_l_refused ct_l_refused : Value} {od_l_refused an_l_refused : Option Addr} {sl_l_refused : Array (Option Value)} {f_l_refused : Addr}
    {oc_l_whole kV_l_whole dc_l_whole pm_l_whole cd_l_whole ct_l_whole : Value} {od_l_whole an_l_whole : Option Addr} {sl_l_whole : Array (Option Value)} {f_l_whole : Addr}
    {oc_l_right kV_l_right dc_l_right pm_l_right cd_l_right ct_l_right : Value} {od_l_right an_l_right : Option Addr} {sl_l_right : Array (Option Value)} {f_l_right : Addr}
    {oc_law kV_law dc_law pm_law cd_law ct_law : Value} {od_law an_law : Option Addr} {sl_law : Array (Option Value)} {f_law : Addr}
    {k_MOST : Tok}
    (ha_l_grid : PySem.W.nsIn K mainGlobals "_law_grid" = some (some (.ref f_l_grid)))
    (hl_l_grid : K.lookup f_l_grid = some ⟨oc_l_grid, od_l_grid, .func (PySem.W.fnOf "_law_grid" "_law_grid" (defArgs s_l_grid) (defBody s_l_grid) (defScope s_l_grid) .none kV_l_grid dc_l_grid pm_l_grid an_l_grid cd_l_grid ct_l_grid), sl_l_grid⟩)
    (hc_l_grid : PySem.W.codeIn K cd_l_grid "_law_grid" = true)
    (hk_l_grid : PySem.W.keepIn K (.ref f_l_grid) = true)
    (ha_l_number : PySem.W.nsIn K mainGlobals "_law_number" = some (some (.ref f_l_number)))
    (hl_l_number : K.lookup f_l_number = some ⟨oc_l_number, od_l_number, .func (PySem.W.fnOf "_law_number" "_law_number" (defArgs s_l_number) (defBody s_l_number) (defScope s_l_number) .none kV_l_number dc_l_number pm_l_number an_l_number cd_l_number ct_l_number), sl_l_number⟩)
    (hc_l_number : PySem.W.codeIn K cd_l_number "_law_number" = true)
    (hk_l_number : PySem.W.keepIn K (.ref f_l_number) = true)
    (ha_l_beside : PySem.W.nsIn K mainGlobals "_law_beside" = some (some (.ref f_l_beside)))
    (hl_l_beside : K.lookup f_l_beside = some ⟨oc_l_beside, od_l_beside, .func (PySem.W.fnOf "_law_beside" "_law_beside" (defArgs s_l_beside) (defBody s_l_beside) (defScope s_l_beside) .none kV_l_beside dc_l_beside pm_l_beside an_l_beside cd_l_beside ct_l_beside), sl_l_beside⟩)
    (hc_l_beside : PySem.W.codeIn K cd_l_beside "_law_beside" = true)
    (hk_l_beside : PySem.W.keepIn K (.ref f_l_beside) = true)
    (ha_l_sides : PySem.W.nsIn K mainGlobals "_law_sides" = some (some (.ref f_l_sides)))
    (hl_l_sides : K.lookup f_l_sides = some ⟨oc_l_sides, od_l_sides, .func (PySem.W.fnOf "_law_sides" "_law_sides" (defArgs s_l_sides) (defBody s_l_sides) (defScope s_l_sides) .none kV_l_sides dc_l_sides pm_l_sides an_l_sides cd_l_sides ct_l_sides), sl_l_sides⟩)
    (hc_l_sides : PySem.W.codeIn K cd_l_sides "_law_sides" = true)
    (hk_l_sides : PySem.W.keepIn K (.ref f_l_sides) = true)
    (ha_l_points : PySem.W.nsIn K mainGlobals "_law_points" = some (some (.ref f_l_points)))
    (hl_l_points : K.lookup f_l_points = some ⟨oc_l_points, od_l_points, .func (PySem.W.fnOf "_law_points" "_law_points" (defArgs s_l_points) (defBody s_l_points) (defScope s_l_points) .none kV_l_points dc_l_points pm_l_points an_l_points cd_l_points ct_l_points), sl_l_points⟩)
    (hc_l_points : PySem.W.codeIn K cd_l_points "_law_points" = true)
    (hk_l_points : PySem.W.keepIn K (.ref f_l_points) = true)
    (ha_l_is_ring : PySem.W.nsIn K mainGlobals "_law_is_ring" = some (some (.ref f_l_is_ring)))
    (hl_l_is_ring : K.lookup f_l_is_ring = some ⟨oc_l_is_ring, od_l_is_ring, .func (PySem.W.fnOf "_law_is_ring" "_law_is_ring" (defArgs s_l_is_ring) (defBody s_l_is_ring) (defScope s_l_is_ring) .none kV_l_is_ring dc_l_is_ring pm_l_is_ring an_l_is_ring cd_l_is_ring ct_l_is_ring), sl_l_is_ring⟩)
    (hc_l_is_ring : PySem.W.codeIn K cd_l_is_ring "_law_is_ring" = true)
    (hk_l_is_ring : PySem.W.keepIn K (.ref f_l_is_ring) = true)
    (ha_l_grown : PySem.W.nsIn K mainGlobals "_law_grown" = some (some (.ref f_l_grown)))
    (hl_l_grown : K.lookup f_l_grown = some ⟨oc_l_grown, od_l_grown, .func (PySem.W.fnOf "_law_grown" "_law_grown" (defArgs s_l_grown) (defBody s_l_grown) (defScope s_l_grown) .none kV_l_grown dc_l_grown pm_l_grown an_l_grown cd_l_grown ct_l_grown), sl_l_grown⟩)
    (hc_l_grown : PySem.W.codeIn K cd_l_grown "_law_grown" = true)
    (hk_l_grown : PySem.W.keepIn K (.ref f_l_grown) = true)
    (ha_l_cells : PySem.W.nsIn K mainGlobals "_law_cells" = some (some (.ref f_l_cells)))
    (hl_l_cells : K.lookup f_l_cells = some ⟨oc_l_cells, od_l_cells, .func (PySem.W.fnOf "_law_cells" "_law_cells" (defArgs s_l_cells) (defBody s_l_cells) (defScope s_l_cells) .none kV_l_cells dc_l_cells pm_l_cells an_l_cells cd_l_cells ct_l_cells), sl_l_cells⟩)
    (hc_l_cells : PySem.W.codeIn K cd_l_cells "_law_cells" = true)
    (hk_l_cells : PySem.W.keepIn K (.ref f_l_cells) = true)
    (ha_is_whole : PySem.W.nsIn K mainGlobals "is_whole" = some (some (.ref f_is_whole)))
    (hl_is_whole : K.lookup f_is_whole = some ⟨oc_is_whole, od_is_whole, .func (PySem.W.fnOf "is_whole" "is_whole" (defArgs s_is_whole) (defBody s_is_whole) (defScope s_is_whole) .none kV_is_whole dc_is_whole pm_is_whole an_is_whole cd_is_whole ct_is_whole), sl_is_whole⟩)
    (hc_is_whole : PySem.W.codeIn K cd_is_whole "is_whole" = true)
    (hk_is_whole : PySem.W.keepIn K (.ref f_is_whole) = true)
    (ha_check_grid : PySem.W.nsIn K mainGlobals "check_grid" = some (some (.ref f_check_grid)))
    (hl_check_grid : K.lookup f_check_grid = some ⟨oc_check_grid, od_check_grid, .func (PySem.W.fnOf "check_grid" "check_grid" (defArgs s_check_grid) (defBody s_check_grid) (defScope s_check_grid) .none kV_check_grid dc_check_grid pm_check_grid an_check_grid cd_check_grid ct_check_grid), sl_check_grid⟩)
    (hc_check_grid : PySem.W.codeIn K cd_check_grid "check_grid" = true)
    (hk_check_grid : PySem.W.keepIn K (.ref f_check_grid) = true)
    (ha_check_cells : PySem.W.nsIn K mainGlobals "check_cells" = some (some (.ref f_check_cells)))
    (hl_check_cells : K.lookup f_check_cells = some ⟨oc_check_cells, od_check_cells, .func (PySem.W.fnOf "check_cells" "check_cells" (defArgs s_check_cells) (defBody s_check_cells) (defScope s_check_cells) .none kV_check_cells dc_check_cells pm_check_cells an_check_cells cd_check_cells ct_check_cells), sl_check_cells⟩)
    (hc_check_cells : PySem.W.codeIn K cd_check_cells "check_cells" = true)
    (hk_check_cells : PySem.W.keepIn K (.ref f_check_cells) = true)
    (ha_beside : PySem.W.nsIn K mainGlobals "beside" = some (some (.ref f_beside)))
    (hl_beside : K.lookup f_beside = some ⟨oc_beside, od_beside, .func (PySem.W.fnOf "beside" "beside" (defArgs s_beside) (defBody s_beside) (defScope s_beside) .none kV_beside dc_beside pm_beside an_beside cd_beside ct_beside), sl_beside⟩)
    (hc_beside : PySem.W.codeIn K cd_beside "beside" = true)
    (hk_beside : PySem.W.keepIn K (.ref f_beside) = true)
    (ha_spread : PySem.W.nsIn K mainGlobals "spread" = some (some (.ref f_spread)))
    (hl_spread : K.lookup f_spread = some ⟨oc_spread, od_spread, .func (PySem.W.fnOf "spread" "spread" (defArgs s_spread) (defBody s_spread) (defScope s_spread) .none kV_spread dc_spread pm_spread an_spread cd_spread ct_spread), sl_spread⟩)
    (hc_spread : PySem.W.codeIn K cd_spread "spread" = true)
    (hk_spread : PySem.W.keepIn K (.ref f_spread) = true)
    (ha_is_inner : PySem.W.nsIn K mainGlobals "is_inner" = some (some (.ref f_is_inner)))
    (hl_is_inner : K.lookup f_is_inner = some ⟨oc_is_inner, od_is_inner, .func (PySem.W.fnOf "is_inner" "is_inner" (defArgs s_is_inner) (defBody s_is_inner) (defScope s_is_inner) .none kV_is_inner dc_is_inner pm_is_inner an_is_inner cd_is_inner ct_is_inner), sl_is_inner⟩)
    (hc_is_inner : PySem.W.codeIn K cd_is_inner "is_inner" = true)
    (hk_is_inner : PySem.W.keepIn K (.ref f_is_inner) = true)
    (ha_first_inner : PySem.W.nsIn K mainGlobals "first_inner" = some (some (.ref f_first_inner)))
    (hl_first_inner : K.lookup f_first_inner = some ⟨oc_first_inner, od_first_inner, .func (PySem.W.fnOf "first_inner" "first_inner" (defArgs s_first_inner) (defBody s_first_inner) (defScope s_first_inner) .none kV_first_inner dc_first_inner pm_first_inner an_first_inner cd_first_inner ct_first_inner), sl_first_inner⟩)
    (hc_first_inner : PySem.W.codeIn K cd_first_inner "first_inner" = true)
    (hk_first_inner : PySem.W.keepIn K (.ref f_first_inner) = true)
    (ha_is_ring : PySem.W.nsIn K mainGlobals "is_ring" = some (some (.ref f_is_ring)))
    (hl_is_ring : K.lookup f_is_ring = some ⟨oc_is_ring, od_is_ring, .func (PySem.W.fnOf "is_ring" "is_ring" (defArgs s_is_ring) (defBody s_is_ring) (defScope s_is_ring) .none kV_is_ring dc_is_ring pm_is_ring an_is_ring cd_is_ring ct_is_ring), sl_is_ring⟩)
    (hc_is_ring : PySem.W.codeIn K cd_is_ring "is_ring" = true)
    (hk_is_ring : PySem.W.keepIn K (.ref f_is_ring) = true)
    (ha_side_ahead : PySem.W.nsIn K mainGlobals "side_ahead" = some (some (.ref f_side_ahead)))
    (hl_side_ahead : K.lookup f_side_ahead = some ⟨oc_side_ahead, od_side_ahead, .func (PySem.W.fnOf "side_ahead" "side_ahead" (defArgs s_side_ahead) (defBody s_side_ahead) (defScope s_side_ahead) .none kV_side_ahead dc_side_ahead pm_side_ahead an_side_ahead cd_side_ahead ct_side_ahead), sl_side_ahead⟩)
    (hc_side_ahead : PySem.W.codeIn K cd_side_ahead "side_ahead" = true)
    (hk_side_ahead : PySem.W.keepIn K (.ref f_side_ahead) = true)
    (ha_walk : PySem.W.nsIn K mainGlobals "walk" = some (some (.ref f_walk)))
    (hl_walk : K.lookup f_walk = some ⟨oc_walk, od_walk, .func (PySem.W.fnOf "walk" "walk" (defArgs s_walk) (defBody s_walk) (defScope s_walk) .none kV_walk dc_walk pm_walk an_walk cd_walk ct_walk), sl_walk⟩)
    (hc_walk : PySem.W.codeIn K cd_walk "walk" = true)
    (hk_walk : PySem.W.keepIn K (.ref f_walk) = true)
    (ha_l_refused : PySem.W.nsIn K mainGlobals "_law_refused" = some (some (.ref f_l_refused)))
    (hl_l_refused : K.lookup f_l_refused = some ⟨oc_l_refused, od_l_refused, .func (PySem.W.fnOf "_law_refused" "_law_refused" (defArgs s_l_refused) (defBody s_l_refused) (defScope s_l_refused) .none kV_l_refused dc_l_refused pm_l_refused an_l_refused cd_l_refused ct_l_refused), sl_l_refused⟩)
    (hc_l_refused : PySem.W.codeIn K cd_l_refused "_law_refused" = true)
    (hk_l_refused : PySem.W.keepIn K (.ref f_l_refused) = true)
    (ha_l_whole : PySem.W.nsIn K mainGlobals "_law_whole" = some (some (.ref f_l_whole)))
    (hl_l_whole : K.lookup f_l_whole = some ⟨oc_l_whole, od_l_whole, .func (PySem.W.fnOf "_law_whole" "_law_whole" (defArgs s_l_whole) (defBody s_l_whole) (defScope s_l_whole) .none kV_l_whole dc_l_whole pm_l_whole an_l_whole cd_l_whole ct_l_whole), sl_l_whole⟩)
    (hc_l_whole : PySem.W.codeIn K cd_l_whole "_law_whole" = true)
    (hk_l_whole : PySem.W.keepIn K (.ref f_l_whole) = true)
    (ha_l_right : PySem.W.nsIn K mainGlobals "_law_right" = some (some (.ref f_l_right)))
    (hl_l_right : K.lookup f_l_right = some ⟨oc_l_right, od_l_right, .func (PySem.W.fnOf "_law_right" "_law_right" (defArgs s_l_right) (defBody s_l_right) (defScope s_l_right) .none kV_l_right dc_l_right pm_l_right an_l_right cd_l_right ct_l_right), sl_l_right⟩)
    (hc_l_right : PySem.W.codeIn K cd_l_right "_law_right" = true)
    (hk_l_right : PySem.W.keepIn K (.ref f_l_right) = true)
    (ha_law : PySem.W.nsIn K mainGlobals "law" = some (some (.ref f_law)))
    (hl_law : K.lookup f_law = some ⟨oc_law, od_law, .func (PySem.W.fnOf "law" "law" (defArgs s_law) (defBody s_law) (defScope s_law) .none kV_law dc_law pm_law an_law cd_law ct_law), sl_law⟩)
    (hc_law : PySem.W.codeIn K cd_law "law" = true)
    (hk_law : PySem.W.keepIn K (.ref f_law) = true)
    (hz_any : PySem.W.nsIn K mainGlobals "any" = some none)
    (hz_sorted : PySem.W.nsIn K mainGlobals "sorted" = some none)
    (hz_list : PySem.W.nsIn K mainGlobals "list" = some none)
    (hz_len : PySem.W.nsIn K mainGlobals "len" = some none)
    (hz_min : PySem.W.nsIn K mainGlobals "min" = some none)
    (hz_sum : PySem.W.nsIn K mainGlobals "sum" = some none)
    (hz_range : PySem.W.nsIn K mainGlobals "range" = some none)
    (hz_isinstance : PySem.W.nsIn K mainGlobals "isinstance" = some none)
    (hz_int : PySem.W.nsIn K mainGlobals "int" = some none)
    (hz_bool : PySem.W.nsIn K mainGlobals "bool" = some none)
    (hz_tuple : PySem.W.nsIn K mainGlobals "tuple" = some none)
    (hz_all : PySem.W.nsIn K mainGlobals "all" = some none)
    (hg_MOST : PySem.W.nsIn K mainGlobals "MOST" = some (some (.int 6 k_MOST)))
    (h_n_BadGrid : PySem.W.nsIn K mainGlobals "BadGrid" = some (some (.ref a_cBadGrid)))
    (h_x_BadGrid : PySem.W.excIn K a_cBadGrid [.type "ValueError", .type "Exception", .type "BaseException", .type "object"] "ValueError.__new__" = true)
    (h_k_BadGrid : PySem.W.keepIn K (.ref a_cBadGrid) = true)
    (h_e_BadGrid : PySem.W.subIn K (.ref a_cBadGrid) (.type "BaseException") = some true)
    (h_y_BadGrid : PySem.W.typeIn K (.ref a_cBadGrid) = some (.type "type"))
    (h_n_BadCells : PySem.W.nsIn K mainGlobals "BadCells" = some (some (.ref a_cBadCells)))
    (h_x_BadCells : PySem.W.excIn K a_cBadCells [.type "ValueError", .type "Exception", .type "BaseException", .type "object"] "ValueError.__new__" = true)
    (h_k_BadCells : PySem.W.keepIn K (.ref a_cBadCells) = true)
    (h_e_BadCells : PySem.W.subIn K (.ref a_cBadCells) (.type "BaseException") = some true)
    (h_y_BadCells : PySem.W.typeIn K (.ref a_cBadCells) = some (.type "type"))
    (hz_zip : PySem.W.nsIn K mainGlobals "zip" = some none)
    (h_n_NoRing : PySem.W.nsIn K mainGlobals "NoRing" = some (some (.ref a_cNoRing)))
    (h_x_NoRing : PySem.W.excIn K a_cNoRing [.type "ValueError", .type "Exception", .type "BaseException", .type "object"] "ValueError.__new__" = true)
    (h_k_NoRing : PySem.W.keepIn K (.ref a_cNoRing) = true)
    (h_e_NoRing : PySem.W.subIn K (.ref a_cNoRing) (.type "BaseException") = some true)
    (h_y_NoRing : PySem.W.typeIn K (.ref a_cNoRing) = some (.type "type"))
    (xa_NoRing : PySem.W.findIn K (.ref a_cNoRing) "__getattribute__" = some (some (.builtin "BaseException.__getattribute__")))
    (xb_NoRing : PySem.W.findIn K (.ref a_cNoRing) "__getattr__" = some none)
    (xc_NoRing : PySem.W.findIn K (.ref a_cNoRing) "__class__" = some (some (.builtin "object.__class__")))
    (xd_NoRing : PySem.W.subIn K (.ref a_cNoRing) (.type "BaseException") = some true)
    (xe_NoRing : PySem.W.hasDictIn K a_cNoRing = true)
    (xf_NoRing : PySem.W.specialIn K (.builtin "object.__class__") "__get__" = some (some (.builtin "getset_descriptor.__get__")))
    (xg_NoRing : PySem.W.takesIn K (.builtin "object.__class__") = some true)
    (xh_NoRing : PySem.W.mroIn K a_cNoRing (.type "object") = some true)
    (h_n_RingError : PySem.W.nsIn K mainGlobals "RingError" = some (some (.ref a_cRingError)))
    (ma : PySem.W.subIn K (.ref a_cRingError) (.type "BaseException") = some true)
    (mb : PySem.W.hasDictIn K a_cRingError = true)
    (mc : PySem.W.typeIn K (.ref a_cRingError) = some (.type "type"))
    (md_NoRing : PySem.W.subIn K (.ref a_cNoRing) (.ref a_cRingError) = some true)
    (ic_BadCells : PySem.W.isClsIn K a_cBadCells = true)
    (it_BadCells : PySem.W.typeIn K (.ref a_cBadCells) = some (.type "type"))
    (is_BadCells : PySem.W.subIn K (.ref a_cBadCells) (.ref a_cBadCells) = some true)
    (h_ki_NoRing_BadCells : PySem.W.subIn K (.ref a_cNoRing) (.ref a_cBadCells) = some false)
    (h_n_BadClues : PySem.W.nsIn K mainGlobals "BadClues" = some (some (.ref a_cBadClues)))
    (ic_BadClues : PySem.W.isClsIn K a_cBadClues = true)
    (it_BadClues : PySem.W.typeIn K (.ref a_cBadClues) = some (.type "type"))
    (is_BadClues : PySem.W.subIn K (.ref a_cBadClues) (.ref a_cBadClues) = some true)
    (h_ki_NoRing_BadClues : PySem.W.subIn K (.ref a_cNoRing) (.ref a_cBadClues) = some false)
    (ic_BadGrid : PySem.W.isClsIn K a_cBadGrid = true)
    (it_BadGrid : PySem.W.typeIn K (.ref a_cBadGrid) = some (.type "type"))
    (is_BadGrid : PySem.W.subIn K (.ref a_cBadGrid) (.ref a_cBadGrid) = some true)
    (h_ki_NoRing_BadGrid : PySem.W.subIn K (.ref a_cNoRing) (.ref a_cBadGrid) = some false)
    (hz_max : PySem.W.nsIn K mainGlobals "max" = some none) :
    ∃ fd : FuncData, (∀ (s : Shared) (v : Value), BindsTo s fd ⟨[v], []⟩ [("_law_script", v)]) ∧ ∀ base : Heap, K.In base → base.Ns mainGlobals mg → FnOk l.prog w K mg base CX0 9 fa fd ["_law_script"] (sp_law K) := by
  have e := hfa.symm.trans (PySem.W.mg_of X G ha_law)
  cases e
  let T : Tx K mg :=
    { C := { cBadGrid := a_cBadGrid, cBadCells := a_cBadCells, cBadClues := a_cBadClues, cNoRing := a_cNoRing, cRingError := a_cRingError, cRing := 0, cSplit := 0, cHole := 0, cOne := 0, cTwo := 0, cNever := 0, cAnswer := 0 },
      f_l_grid := f_l_grid,
      fd_l_grid := PySem.W.fnOf "_law_grid" "_law_grid" (defArgs s_l_grid) (defBody s_l_grid) (defScope s_l_grid) .none kV_l_grid dc_l_grid pm_l_grid an_l_grid cd_l_grid ct_l_grid,
      F_l_grid := fun_mk (st := s_l_grid) hl_l_grid hc_l_grid hk_l_grid,
      g_l_grid := PySem.W.mg_of X G ha_l_grid,
      b_l_grid := (fun_mk (st := s_l_grid) hl_l_grid hc_l_grid hk_l_grid).binds (ps := ["_law_number_here", "_law_most"]) fun _ _ _ _ _ _ us hl => match us, hl with | [_, _], _ => rfl,
      f_l_number := f_l_number,
      fd_l_number := PySem.W.fnOf "_law_number" "_law_number" (defArgs s_l_number) (defBody s_l_number) (defScope s_l_number) .none kV_l_number dc_l_number pm_l_number an_l_number cd_l_number ct_l_number,
      F_l_number := fun_mk (st := s_l_number) hl_l_number hc_l_number hk_l_number,
      g_l_number := PySem.W.mg_of X G ha_l_number,
      b_l_number := (fun_mk (st := s_l_number) hl_l_number hc_l_number hk_l_number).binds (ps := ["_law_cell", "_law_at", "_law_whole_here"]) fun _ _ _ _ _ _ us hl => match us, hl with | [_, _, _], _ => rfl,
      f_l_beside := f_l_beside,
      fd_l_beside := PySem.W.fnOf "_law_beside" "_law_beside" (defArgs s_l_beside) (defBody s_l_beside) (defScope s_l_beside) .none kV_l_beside dc_l_beside pm_l_beside an_l_beside cd_l_beside ct_l_beside,
      F_l_beside := fun_mk (st := s_l_beside) hl_l_beside hc_l_beside hk_l_beside,
      g_l_beside := PySem.W.mg_of X G ha_l_beside,
      b_l_beside := (fun_mk (st := s_l_beside) hl_l_beside hc_l_beside hk_l_beside).binds (ps := ["_law_grid_here", "_law_cell"]) fun _ _ _ _ _ _ us hl => match us, hl with | [_, _], _ => rfl,
      f_l_sides := f_l_sides,
      fd_l_sides := PySem.W.fnOf "_law_sides" "_law_sides" (defArgs s_l_sides) (defBody s_l_sides) (defScope s_l_sides) .none kV_l_sides dc_l_sides pm_l_sides an_l_sides cd_l_sides ct_l_sides,
      F_l_sides := fun_mk (st := s_l_sides) hl_l_sides hc_l_sides hk_l_sides,
      g_l_sides := PySem.W.mg_of X G ha_l_sides,
      b_l_sides := (fun_mk (st := s_l_sides) hl_l_sides hc_l_sides hk_l_sides).binds (ps := ["_law_grid_here", "_law_cells_here"]) fun _ _ _ _ _ _ us hl => match us, hl with | [_, _], _ => rfl,
      f_l_points := f_l_points,
      fd_l_points := PySem.W.fnOf "_law_points" "_law_points" (defArgs s_l_points) (defBody s_l_points) (defScope s_l_points) .none kV_l_points dc_l_points pm_l_points an_l_points cd_l_points ct_l_points,
      F_l_points := fun_mk (st := s_l_points) hl_l_points hc_l_points hk_l_points,
      g_l_points := PySem.W.mg_of X G ha_l_points,
      b_l_points := (fun_mk (st := s_l_points) hl_l_points hc_l_points hk_l_points).binds (ps := ["_law_sides_here"]) fun _ _ _ _ _ _ us hl => match us, hl with | [_], _ => rfl,
      f_l_is_ring := f_l_is_ring,
      fd_l_is_ring := PySem.W.fnOf "_law_is_ring" "_law_is_ring" (defArgs s_l_is_ring) (defBody s_l_is_ring) (defScope s_l_is_ring) .none kV_l_is_ring dc_l_is_ring pm_l_is_ring an_l_is_ring cd_l_is_ring ct_l_is_ring,
      F_l_is_ring := fun_mk (st := s_l_is_ring) hl_l_is_ring hc_l_is_ring hk_l_is_ring,
      g_l_is_ring := PySem.W.mg_of X G ha_l_is_ring,
      b_l_is_ring := (fun_mk (st := s_l_is_ring) hl_l_is_ring hc_l_is_ring hk_l_is_ring).binds (ps := ["_law_grid_here", "_law_cells_here"]) fun _ _ _ _ _ _ us hl => match us, hl with | [_, _], _ => rfl,
      f_l_grown := f_l_grown,
      fd_l_grown := PySem.W.fnOf "_law_grown" "_law_grown" (defArgs s_l_grown) (defBody s_l_grown) (defScope s_l_grown) .none kV_l_grown dc_l_grown pm_l_grown an_l_grown cd_l_grown ct_l_grown,
      F_l_grown := fun_mk (st := s_l_grown) hl_l_grown hc_l_grown hk_l_grown,
      g_l_grown := PySem.W.mg_of X G ha_l_grown,
      b_l_grown := (fun_mk (st := s_l_grown) hl_l_grown hc_l_grown hk_l_grown).binds (ps := ["_law_script", "_law_by", "_law_grid_here"]) fun _ _ _ _ _ _ us hl => match us, hl with | [_, _, _], _ => rfl,
      f_l_cells := f_l_cells,
      fd_l_cells := PySem.W.fnOf "_law_cells" "_law_cells" (defArgs s_l_cells) (defBody s_l_cells) (defScope s_l_cells) .none kV_l_cells dc_l_cells pm_l_cells an_l_cells cd_l_cells ct_l_cells,
      F_l_cells := fun_mk (st := s_l_cells) hl_l_cells hc_l_cells hk_l_cells,
      g_l_cells := PySem.W.mg_of X G ha_l_cells,
      b_l_cells := (fun_mk (st := s_l_cells) hl_l_cells hc_l_cells hk_l_cells).binds (ps := ["_law_script", "_law_by", "_law_grid_here"]) fun _ _ _ _ _ _ us hl => match us, hl with | [_, _, _], _ => rfl,
      f_is_whole := f_is_whole,
      fd_is_whole := PySem.W.fnOf "is_whole" "is_whole" (defArgs s_is_whole) (defBody s_is_whole) (defScope s_is_whole) .none kV_is_whole dc_is_whole pm_is_whole an_is_whole cd_is_whole ct_is_whole,
      F_is_whole := fun_mk (st := s_is_whole) hl_is_whole hc_is_whole hk_is_whole,
      g_is_whole := PySem.W.mg_of X G ha_is_whole,
      b_is_whole := (fun_mk (st := s_is_whole) hl_is_whole hc_is_whole hk_is_whole).binds (ps := ["thing"]) fun _ _ _ _ _ _ us hl => match us, hl with | [_], _ => rfl,
      f_check_grid := f_check_grid,
      fd_check_grid := PySem.W.fnOf "check_grid" "check_grid" (defArgs s_check_grid) (defBody s_check_grid) (defScope s_check_grid) .none kV_check_grid dc_check_grid pm_check_grid an_check_grid cd_check_grid ct_check_grid,
      F_check_grid := fun_mk (st := s_check_grid) hl_check_grid hc_check_grid hk_check_grid,
      g_check_grid := PySem.W.mg_of X G ha_check_grid,
      b_check_grid := (fun_mk (st := s_check_grid) hl_check_grid hc_check_grid hk_check_grid).binds (ps := ["grid"]) fun _ _ _ _ _ _ us hl => match us, hl with | [_], _ => rfl,
      f_check_cells := f_check_cells,
      fd_check_cells := PySem.W.fnOf "check_cells" "check_cells" (defArgs s_check_cells) (defBody s_check_cells) (defScope s_check_cells) .none kV_check_cells dc_check_cells pm_check_cells an_check_cells cd_check_cells ct_check_cells,
      F_check_cells := fun_mk (st := s_check_cells) hl_check_cells hc_check_cells hk_check_cells,
      g_check_cells := PySem.W.mg_of X G ha_check_cells,
      b_check_cells := (fun_mk (st := s_check_cells) hl_check_cells hc_check_cells hk_check_cells).binds (ps := ["grid", "cells"]) fun _ _ _ _ _ _ us hl => match us, hl with | [_, _], _ => rfl,
      f_beside := f_beside,
      fd_beside := PySem.W.fnOf "beside" "beside" (defArgs s_beside) (defBody s_beside) (defScope s_beside) .none kV_beside dc_beside pm_beside an_beside cd_beside ct_beside,
      F_beside := fun_mk (st := s_beside) hl_beside hc_beside hk_beside,
      g_beside := PySem.W.mg_of X G ha_beside,
      b_beside := (fun_mk (st := s_beside) hl_beside hc_beside hk_beside).binds (ps := ["grid", "cell"]) fun _ _ _ _ _ _ us hl => match us, hl with | [_, _], _ => rfl,
      f_spread := f_spread,
      fd_spread := PySem.W.fnOf "spread" "spread" (defArgs s_spread) (defBody s_spread) (defScope s_spread) .none kV_spread dc_spread pm_spread an_spread cd_spread ct_spread,
      F_spread := fun_mk (st := s_spread) hl_spread hc_spread hk_spread,
      g_spread := PySem.W.mg_of X G ha_spread,
      b_spread := (fun_mk (st := s_spread) hl_spread hc_spread hk_spread).binds (ps := ["grid", "first", "some"]) fun _ _ _ _ _ _ us hl => match us, hl with | [_, _, _], _ => rfl,
      f_is_inner := f_is_inner,
      fd_is_inner := PySem.W.fnOf "is_inner" "is_inner" (defArgs s_is_inner) (defBody s_is_inner) (defScope s_is_inner) .none kV_is_inner dc_is_inner pm_is_inner an_is_inner cd_is_inner ct_is_inner,
      F_is_inner := fun_mk (st := s_is_inner) hl_is_inner hc_is_inner hk_is_inner,
      g_is_inner := PySem.W.mg_of X G ha_is_inner,
      b_is_inner := (fun_mk (st := s_is_inner) hl_is_inner hc_is_inner hk_is_inner).binds (ps := ["grid", "cells", "cell"]) fun _ _ _ _ _ _ us hl => match us, hl with | [_, _, _], _ => rfl,
      f_first_inner := f_first_inner,
      fd_first_inner := PySem.W.fnOf "first_inner" "first_inner" (defArgs s_first_inner) (defBody s_first_inner) (defScope s_first_inner) .none kV_first_inner dc_first_inner pm_first_inner an_first_inner cd_first_inner ct_first_inner,
      F_first_inner := fun_mk (st := s_first_inner) hl_first_inner hc_first_inner hk_first_inner,
      g_first_inner := PySem.W.mg_of X G ha_first_inner,
      b_first_inner := (fun_mk (st := s_first_inner) hl_first_inner hc_first_inner hk_first_inner).binds (ps := ["grid", "cells"]) fun _ _ _ _ _ _ us hl => match us, hl with | [_, _], _ => rfl,
      f_is_ring := f_is_ring,
      fd_is_ring := PySem.W.fnOf "is_ring" "is_ring" (defArgs s_is_ring) (defBody s_is_ring) (defScope s_is_ring) .none kV_is_ring dc_is_ring pm_is_ring an_is_ring cd_is_ring ct_is_ring,
      F_is_ring := fun_mk (st := s_is_ring) hl_is_ring hc_is_ring hk_is_ring,
      g_is_ring := PySem.W.mg_of X G ha_is_ring,
      b_is_ring := (fun_mk (st := s_is_ring) hl_is_ring hc_is_ring hk_is_ring).binds (ps := ["grid", "cells"]) fun _ _ _ _ _ _ us hl => match us, hl with | [_, _], _ => rfl,
      f_side_ahead := f_side_ahead,
      fd_side_ahead := PySem.W.fnOf "side_ahead" "side_ahead" (defArgs s_side_ahead) (defBody s_side_ahead) (defScope s_side_ahead) .none kV_side_ahead dc_side_ahead pm_side_ahead an_side_ahead cd_side_ahead ct_side_ahead,
      F_side_ahead := fun_mk (st := s_side_ahead) hl_side_ahead hc_side_ahead hk_side_ahead,
      g_side_ahead := PySem.W.mg_of X G ha_side_ahead,
      b_side_ahead := (fun_mk (st := s_side_ahead) hl_side_ahead hc_side_ahead hk_side_ahead).binds (ps := ["grid", "cells", "point", "turn"]) fun _ _ _ _ _ _ us hl => match us, hl with | [_, _, _, _], _ => rfl,
      f_walk := f_walk,
      fd_walk := PySem.W.fnOf "walk" "walk" (defArgs s_walk) (defBody s_walk) (defScope s_walk) .none kV_walk dc_walk pm_walk an_walk cd_walk ct_walk,
      F_walk := fun_mk (st := s_walk) hl_walk hc_walk hk_walk,
      g_walk := PySem.W.mg_of X G ha_walk,
      b_walk := (fun_mk (st := s_walk) hl_walk hc_walk hk_walk).binds (ps := ["grid", "cells"]) fun _ _ _ _ _ _ us hl => match us, hl with | [_, _], _ => rfl,
      f_l_refused := f_l_refused,
      fd_l_refused := PySem.W.fnOf "_law_refused" "_law_refused" (defArgs s_l_refused) (defBody s_l_refused) (defScope s_l_refused) .none kV_l_refused dc_l_refused pm_l_refused an_l_refused cd_l_refused ct_l_refused,
      F_l_refused := fun_mk (st := s_l_refused) hl_l_refused hc_l_refused hk_l_refused,
      g_l_refused := PySem.W.mg_of X G ha_l_refused,
      b_l_refused := (fun_mk (st := s_l_refused) hl_l_refused hc_l_refused hk_l_refused).binds (ps := ["_law_grid_here", "_law_cells_here"]) fun _ _ _ _ _ _ us hl => match us, hl with | [_, _], _ => rfl,
      f_l_whole := f_l_whole,
      fd_l_whole := PySem.W.fnOf "_law_whole" "_law_whole" (defArgs s_l_whole) (defBody s_l_whole) (defScope s_l_whole) .none kV_l_whole dc_l_whole pm_l_whole an_l_whole cd_l_whole ct_l_whole,
      F_l_whole := fun_mk (st := s_l_whole) hl_l_whole hc_l_whole hk_l_whole,
      g_l_whole := PySem.W.mg_of X G ha_l_whole,
      b_l_whole := (fun_mk (st := s_l_whole) hl_l_whole hc_l_whole hk_l_whole).binds (ps := ["_law_found"]) fun _ _ _ _ _ _ us hl => match us, hl with | [_], _ => rfl,
      f_l_right := f_l_right,
      fd_l_right := PySem.W.fnOf "_law_right" "_law_right" (defArgs s_l_right) (defBody s_l_right) (defScope s_l_right) .none kV_l_right dc_l_right pm_l_right an_l_right cd_l_right ct_l_right,
      F_l_right := fun_mk (st := s_l_right) hl_l_right hc_l_right hk_l_right,
      g_l_right := PySem.W.mg_of X G ha_l_right,
      b_l_right := (fun_mk (st := s_l_right) hl_l_right hc_l_right hk_l_right).binds (ps := ["_law_grid_here", "_law_cells_here"]) fun _ _ _ _ _ _ us hl => match us, hl with | [_, _], _ => rfl,
      f_law := fa,
      fd_law := PySem.W.fnOf "law" "law" (defArgs s_law) (defBody s_law) (defScope s_law) .none kV_law dc_law pm_law an_law cd_law ct_law,
      F_law := fun_mk (st := s_law) hl_law hc_law hk_law,
      g_law := PySem.W.mg_of X G ha_law,
      b_law := (fun_mk (st := s_law) hl_law hc_law hk_law).binds (ps := ["_law_script"]) fun _ _ _ _ _ _ us hl => match us, hl with | [_], _ => rfl,
      n_any := PySem.W.mg_none_of X G hz_any,
      n_sorted := PySem.W.mg_none_of X G hz_sorted,
      n_list := PySem.W.mg_none_of X G hz_list,
      n_len := PySem.W.mg_none_of X G hz_len,
      n_min := PySem.W.mg_none_of X G hz_min,
      n_sum := PySem.W.mg_none_of X G hz_sum,
      n_range := PySem.W.mg_none_of X G hz_range,
      n_isinstance := PySem.W.mg_none_of X G hz_isinstance,
      n_int := PySem.W.mg_none_of X G hz_int,
      n_bool := PySem.W.mg_none_of X G hz_bool,
      n_tuple := PySem.W.mg_none_of X G hz_tuple,
      n_all := PySem.W.mg_none_of X G hz_all,
      k_MOST := k_MOST,
      g_MOST := PySem.W.mg_of X G hg_MOST,
      g_BadGrid := PySem.W.mg_of X G h_n_BadGrid,
      x_BadGrid := h_x_BadGrid,
      k_BadGrid := h_k_BadGrid,
      e_BadGrid := h_e_BadGrid,
      y_BadGrid := h_y_BadGrid,
      g_BadCells := PySem.W.mg_of X G h_n_BadCells,
      x_BadCells := h_x_BadCells,
      k_BadCells := h_k_BadCells,
      e_BadCells := h_e_BadCells,
      y_BadCells := h_y_BadCells,
      n_zip := PySem.W.mg_none_of X G hz_zip,
      g_NoRing := PySem.W.mg_of X G h_n_NoRing,
      x_NoRing := h_x_NoRing,
      k_NoRing := h_k_NoRing,
      e_NoRing := h_e_NoRing,
      y_NoRing := h_y_NoRing,
      ex_NoRing := ⟨xa_NoRing, xb_NoRing, xd_NoRing, xe_NoRing, xc_NoRing, xf_NoRing, xg_NoRing, xh_NoRing⟩,
      g_RingError := PySem.W.mg_of X G h_n_RingError,
      em_NoRing := PySem.W.exm_ref ma mb mc md_NoRing,
      ki_NoRing_BadCells := kit_not ic_BadCells it_BadCells h_ki_NoRing_BadCells is_BadCells,
      g_BadClues := PySem.W.mg_of X G h_n_BadClues,
      ki_NoRing_BadClues := kit_not ic_BadClues it_BadClues h_ki_NoRing_BadClues is_BadClues,
      ki_NoRing_BadGrid := kit_not ic_BadGrid it_BadGrid h_ki_NoRing_BadGrid is_BadGrid,
      ki_NoRing_NoRing := kit_self,
      n_max := PySem.W.mg_none_of X G hz_max }
  exact ⟨T.fd_law, fun s v => .of_eq rfl, fun base _ _ => ok_law T⟩
end Sd
open PySem PySem.W PyProof.Rows
set_option maxHeartbeats 0 in
theorem PySem.Challenge.cw_sidering_k03_whole_walk_holds : PySem.Challenge.rw_sidering_k03_whole_walk.Holds := by
  w_on; o_law; k_head; (case hw => w_witness2)
  k_fill
  refine L2.walk_ofB (l := PySem.Challenge.rw_sidering_k03_whole_walk) (n := 63) (k := 9) (x := "_law_script") (CX := fun _ => L2.CX0) (sp := fun w => Sd.sp_law _) rfl (by decide) rfl ⟨rfl, by decide, by decide⟩ (fun w h Y => PySem.W.kIn_of Y) ?F (fun _ _ a ns hl hb _ hS => ⟨a, ns, rfl, hS, ⟨hl, hb⟩, fun _ => rfl⟩) (fun _ _ _ _ _ h => h)
  case F =>
    intro w mg fa h KX G hmg
    refine' Sd.all_mk KX G hmg ?ha_l_grid ?hl_l_grid ?hc_l_grid ?hk_l_grid ?ha_l_number ?hl_l_number ?hc_l_number ?hk_l_number ?ha_l_beside ?hl_l_beside ?hc_l_beside ?hk_l_beside ?ha_l_sides ?hl_l_sides ?hc_l_sides ?hk_l_sides ?ha_l_points ?hl_l_points ?hc_l_points ?hk_l_points ?ha_l_is_ring ?hl_l_is_ring ?hc_l_is_ring ?hk_l_is_ring ?ha_l_grown ?hl_l_grown ?hc_l_grown ?hk_l_grown ?ha_l_cells ?hl_l_cells ?hc_l_cells ?hk_l_cells ?ha_is_whole ?hl_is_whole ?hc_is_whole ?hk_is_whole ?ha_check_grid ?hl_check_grid ?hc_check_grid ?hk_check_grid ?ha_check_cells ?hl_check_cells ?hc_check_cells ?hk_check_cells ?ha_beside ?hl_beside ?hc_beside ?hk_beside ?ha_spread ?hl_spread ?hc_spread ?hk_spread ?ha_is_inner ?hl_is_inner ?hc_is_inner ?hk_is_inner ?ha_first_inner ?hl_first_inner ?hc_first_inner ?hk_first_inner ?ha_is_ring ?hl_is_ring ?hc_is_ring ?hk_is_ring ?ha_side_ahead ?hl_side_ahead ?hc_side_ahead ?hk_side_ahead ?ha_walk ?hl_walk ?hc_walk ?hk_walk ?ha_l_refused ?hl_l_refused ?hc_l_refused ?hk_l_refused ?ha_l_whole ?hl_l_whole ?hc_l_whole ?hk_l_whole ?ha_l_right ?hl_l_right ?hc_l_right ?hk_l_right ?ha_law ?hl_law ?hc_law ?hk_law ?hz_any ?hz_sorted ?hz_list ?hz_len ?hz_min ?hz_sum ?hz_range ?hz_isinstance ?hz_int ?hz_bool ?hz_tuple ?hz_all ?hg_MOST ?h_n_BadGrid ?h_x_BadGrid ?h_k_BadGrid ?h_e_BadGrid ?h_y_BadGrid ?h_n_BadCells ?h_x_BadCells ?h_k_BadCells ?h_e_BadCells ?h_y_BadCells ?hz_zip ?h_n_NoRing ?h_x_NoRing ?h_k_NoRing ?h_e_NoRing ?h_y_NoRing ?xa_NoRing ?xb_NoRing ?xc_NoRing ?xd_NoRing ?xe_NoRing ?xf_NoRing ?xg_NoRing ?xh_NoRing ?h_n_RingError ?ma ?mb ?mc ?md_NoRing ?ic_BadCells ?it_BadCells ?is_BadCells ?h_ki_NoRing_BadCells ?h_n_BadClues ?ic_BadClues ?it_BadClues ?is_BadClues ?h_ki_NoRing_BadClues ?ic_BadGrid ?it_BadGrid ?is_BadGrid ?h_ki_NoRing_BadGrid ?hz_max
    (case ha_l_grid => k_is)
    (case hl_l_grid => k_is)
    (case hc_l_grid => k_is)
    (case hk_l_grid => k_is)
    (case ha_l_number => k_is)
    (case hl_l_number => k_is)
    (case hc_l_number => k_is)
    (case hk_l_number => k_is)
    (case ha_l_beside => k_is)
    (case hl_l_beside => k_is)
    (case hc_l_beside => k_is)
    (case hk_l_beside => k_is)
    (case ha_l_sides => k_is)
    (case hl_l_sides => k_is)
    (case hc_l_sides => k_is)
    (case hk_l_sides => k_is)
    (case ha_l_points => k_is)
    (case hl_l_points => k_is)
    (case hc_l_points => k_is)
    (case hk_l_points => k_is)
    (case ha_l_is_ring => k_is)
    (case hl_l_is_ring => k_is)
    (case hc_l_is_ring => k_is)
    (case hk_l_is_ring => k_is)
    (case ha_l_grown => k_is)
    (case hl_l_grown => k_is)
    (case hc_l_grown => k_is)
    (case hk_l_grown => k_is)
    (case ha_l_cells => k_is)
    (case hl_l_cells => k_is)
    (case hc_l_cells => k_is)
    (case hk_l_cells => k_is)
    (case ha_is_whole => k_is)
    (case hl_is_whole => k_is)
    (case hc_is_whole => k_is)
    (case hk_is_whole => k_is)
    (case ha_check_grid => k_is)
    (case hl_check_grid => k_is)
    (case hc_check_grid => k_is)
    (case hk_check_grid => k_is)
    (case ha_check_cells => k_is)
    (case hl_check_cells => k_is)
    (case hc_check_cells => k_is)
    (case hk_check_cells => k_is)
    (case ha_beside => k_is)
    (case hl_beside => k_is)
    (case hc_beside => k_is)
    (case hk_beside => k_is)
    (case ha_spread => k_is)
    (case hl_spread => k_is)
    (case hc_spread => k_is)
    (case hk_spread => k_is)
    (case ha_is_inner => k_is)
    (case hl_is_inner => k_is)
    (case hc_is_inner => k_is)
    (case hk_is_inner => k_is)
    (case ha_first_inner => k_is)
    (case hl_first_inner => k_is)
    (case hc_first_inner => k_is)
    (case hk_first_inner => k_is)
    (case ha_is_ring => k_is)
    (case hl_is_ring => k_is)
    (case hc_is_ring => k_is)
    (case hk_is_ring => k_is)
    (case ha_side_ahead => k_is)
    (case hl_side_ahead => k_is)
    (case hc_side_ahead => k_is)
    (case hk_side_ahead => k_is)
    (case ha_walk => k_is)
    (case hl_walk => k_is)
    (case hc_walk => k_is)
    (case hk_walk => k_is)
    (case ha_l_refused => k_is)
    (case hl_l_refused => k_is)
    (case hc_l_refused => k_is)
    (case hk_l_refused => k_is)
    (case ha_l_whole => k_is)
    (case hl_l_whole => k_is)
    (case hc_l_whole => k_is)
    (case hk_l_whole => k_is)
    (case ha_l_right => k_is)
    (case hl_l_right => k_is)
    (case hc_l_right => k_is)
    (case hk_l_right => k_is)
    (case ha_law => k_is)
    (case hl_law => k_is)
    (case hc_law => k_is)
    (case hk_law => k_is)
    (case hz_any => k_is)
    (case hz_sorted => k_is)
    (case hz_list => k_is)
    (case hz_len => k_is)
    (case hz_min => k_is)
    (case hz_sum => k_is)
    (case hz_range => k_is)
    (case hz_isinstance => k_is)
    (case hz_int => k_is)
    (case hz_bool => k_is)
    (case hz_tuple => k_is)
    (case hz_all => k_is)
    (case hg_MOST => k_is)
    (case h_n_BadGrid => k_is)
    (case h_x_BadGrid => k_exc)
    (case h_k_BadGrid => k_is)
    (case h_e_BadGrid => k_is)
    (case h_y_BadGrid => k_is)
    (case h_n_BadCells => k_is)
    (case h_x_BadCells => k_exc)
    (case h_k_BadCells => k_is)
    (case h_e_BadCells => k_is)
    (case h_y_BadCells => k_is)
    (case hz_zip => k_is)
    (case h_n_NoRing => k_is)
    (case h_x_NoRing => k_exc)
    (case h_k_NoRing => k_is)
    (case h_e_NoRing => k_is)
    (case h_y_NoRing => k_is)
    (case xa_NoRing => k_is)
    (case xb_NoRing => k_is)
    (case xc_NoRing => k_is)
    (case xd_NoRing => k_is)
    (case xe_NoRing => k_is)
    (case xf_NoRing => k_is)
    (case xg_NoRing => k_is)
    (case xh_NoRing => k_is)
    (case h_n_RingError => k_is)
    (case ma => k_is)
    (case mb => k_is)
    (case mc => k_is)
    (case md_NoRing => k_is)
    (case ic_BadCells => k_is)
    (case it_BadCells => k_is)
    (case is_BadCells => k_is)
    (case h_ki_NoRing_BadCells => k_is)
    (case h_n_BadClues => k_is)
    (case ic_BadClues => k_is)
    (case it_BadClues => k_is)
    (case is_BadClues => k_is)
    (case h_ki_NoRing_BadClues => k_is)
    (case ic_BadGrid => k_is)
    (case it_BadGrid => k_is)
    (case is_BadGrid => k_is)
    (case h_ki_NoRing_BadGrid => k_is)
    (case hz_max => k_is)
