import PyProof.Rows.All
import Wide.All
import OpenK.AllK
import Wide.FinOn
import HandS.ForMost
import HandS.ForExc
import HandS.Evl
import HandS.Steps
import HandS.IsInst
import HandS.Deep
import HandS.Style
import HandS.WideBits
import HandS.EndBits
import PySem.Challenge.RW_sidering_k01_numbers
set_option Elab.async false
set_option linter.all false
set_option maxRecDepth 100000
set_option maxHeartbeats 4000000

/-! The program and the laws' helpers as plain functions over ints, naturals and lists: no Python here. -/
namespace Sd
/-- a grid -/
def GOk (h w : Nat) : Prop := 1 ≤ h ∧ h ≤ 6 ∧ 1 ≤ w ∧ w ≤ 6
/-- some cells of it: rising, one at least -/
def Rising (cs : List Int) : Prop := cs.Pairwise (· < ·)
def InGrid (h w : Nat) (cs : List Int) : Prop := ∀ x ∈ cs, 0 ≤ x ∧ x < (h : Int) * w
def COk (h w : Nat) (cs : List Int) : Prop := cs ≠ [] ∧ InGrid h w cs ∧ Rising cs
def besideA (w : Nat) (x : Int) : List Int := if (w : Int) ≤ x then [x - w] else []
def besideB (w : Nat) (x : Int) : List Int := if 0 < x % (w : Int) then [x - 1] else []
def besideC (w : Nat) (x : Int) : List Int := if x % (w : Int) < (w : Int) - 1 then [x + 1] else []
def besideD (h w : Nat) (x : Int) : List Int := if x < (w : Int) * ((h : Int) - 1) then [x + w] else []
/-- the cells beside a cell, rising -/
def beside (h w : Nat) (x : Int) : List Int := besideA w x ++ besideB w x ++ besideC w x ++ besideD h w x
/-- how many sides of a cell are on the rim -/
def near (h w : Nat) (cs : List Int) (x : Int) : Nat := ((beside h w x).filter fun o => decide (o ∈ cs)).length
def sidesOf (h w : Nat) (cs : List Int) (x : Int) : Int := if x ∈ cs then 4 - (near h w cs x : Int) else (near h w cs x : Int)
def numbersOf (h w : Nat) (cs : List Int) : List (List Int) := (List.range h).map fun (r : Nat) => (List.range w).map fun (a : Nat) => sidesOf h w cs ((r : Int) * w + (a : Int))
theorem beside_len (h w : Nat) (x : Int) : (beside h w x).length ≤ 4 := by
  unfold beside besideA besideB besideC besideD
  simp only [List.length_append]
  split <;> split <;> split <;> split <;> simp
theorem hw_le {h w : Nat} (g : GOk h w) : (h : Int) * w ≤ 36 ∧ 1 ≤ (h : Int) * w := by
  obtain ⟨h1, h2, h3, h4⟩ := g
  have e1 : h = 1 ∨ h = 2 ∨ h = 3 ∨ h = 4 ∨ h = 5 ∨ h = 6 := by omega
  rcases e1 with rfl | rfl | rfl | rfl | rfl | rfl <;> omega
/-! ### the laws' helpers -/
def lNumber (c a s : Int) : Int :=
  if 10 ^ 18 ≤ c then c
  else
    let m := ((c + 977 * a) * 48271 + s) % 2147483647
    let n := m * (m + 31 * a + 7) * (m + c + 5)
    n * (n + 48271) / 1009
def lGridGo (most : Nat) : Nat → Nat → Nat → Nat × Nat
  | 0, h, w => (h, w)
  | k + 1, h, w => if most < h * w then (if w < h then lGridGo most k (h - 1) w else lGridGo most k h (w - 1)) else (h, w)
def lGrid (n : Int) (most : Nat) : Nat × Nat := lGridGo most 12 (1 + n % 6).toNat (1 + n / 6 % 6).toNat
def lSpots (r a : Int) : List (Int × Int) := [(r - 1, a), (r, a - 1), (r, a + 1), (r + 1, a)]
def lBeside (h w : Nat) (x : Int) : List Int :=
  ((lSpots (x / (w : Int)) (x % (w : Int))).filter fun (p : Int × Int) => (decide (0 ≤ p.1) && decide (p.1 < (h : Int))) && (decide (0 ≤ p.2) && decide (p.2 < (w : Int)))).map fun (p : Int × Int) => p.1 * (w : Int) + p.2
def lSides1 (h w : Nat) (cs : List Int) (x : Int) : Int :=
  ((lBeside h w x).length : Int) - (((lBeside h w x).filter fun o => decide (o ∈ cs) == decide (x ∈ cs)).length : Int) + (if x ∈ cs then 4 - ((lBeside h w x).length : Int) else 0)
def lNumbers (h w : Nat) (cs : List Int) : List (List Int) := (List.range h).map fun (r : Nat) => (List.range w).map fun (a : Nat) => lSides1 h w cs ((r : Int) * w + (a : Int))
/-- what the script draws -/
def lDrawn (ns : List Int) : List Int := if ns = [] then [5] else ns.take 63
def lPick (n k : Int) : Int := if k = 0 then n % 2 else if k = 1 then n % 3 else if k = 2 then 1 else n % 5
def lKeep (ns : List Int) (by_ : Int) (a : Nat) : Bool :=
  let ds := lDrawn ns
  let s := ds.sum + by_
  let n := lNumber (ds.getD (((a : Int) + by_) % (ds.length : Int)).toNat 0) ((a : Int) + by_) s / 3
  decide (0 < lPick n (s % 4))
def lCells0 (ns : List Int) (by_ : Int) (m : Nat) : List Int := ((List.range m).filter (lKeep ns by_)).map fun (a : Nat) => (a : Int)
def lCells (ns : List Int) (by_ : Int) (h w : Nat) : List Int :=
  let s := (lDrawn ns).sum + by_
  let f := lCells0 ns by_ (h * w)
  let f := if s % 4 = 2 then (f.filter fun c => decide (s / 4 % (h : Int) ≤ c / (w : Int))).filter fun c => decide (c % (w : Int) ≤ s / 8 % (w : Int)) else f
  if f = [] then [s % ((h : Int) * w)] else f
end Sd

/-! The words used for all laws: operations by name, what evaluates to what (over Evl), data, comprehensions. -/
namespace Sd
open PySem L2 Evl

abbrev oAdd : R2 := rI0 fun i j => .int (i + j)
abbrev oSub : R2 := rI0 fun i j => .int (i - j)
abbrev oMul : R2 := rI CMul fun i j => .int (i * j)
abbrev oMulX : R2 := rI CMulX fun i j => .int (i * j)
abbrev oDiv : R2 := rI CDiv fun i j => .int (i / j)
abbrev oMod : R2 := rI (fun _ j => 0 < j) fun i j => .int (i % j)
abbrev oPow : R2 := rI CPow fun i j => .int (i ^ j.toNat)
abbrev oShl : R2 := rI CPow fun i j => .int (i * 2 ^ j.toNat)
abbrev oShr : R2 := rI (fun _ j => 0 ≤ j) fun i j => .int (i / 2 ^ j.toNat)
abbrev oAnd : R2 := rI0 fun i j => .int (Builtin.bitAnd i j)
abbrev oLt : R2 := rI0 fun i j => .bl (decide (i < j))
abbrev oLe : R2 := rI0 fun i j => .bl (decide (i ≤ j))
abbrev oGt : R2 := rI0 fun i j => .bl (decide (j < i))
abbrev oGe : R2 := rI0 fun i j => .bl (decide (j ≤ i))
abbrev oNeg : V → Hp → VK → Prop := rU fun i => .int (-i)
abbrev rAbs : List V → Hp → VK → Prop := fun xs H Q => ∃ i, xs = [.int i] ∧ Q (.int (if i < 0 then -i else i)) H
theorem hu65 {A : Around} {k : Nat} (hr : Room k A) : A.units + 65 < cLine := by
  have := hr.un
  omega

theorem start_eq {N : List Str} {vs : List V} {n : Nat} (h : N.length = n) : L2.start N vs = vs.map some ++ List.replicate (n - vs.length) none := by
  subst h
  rfl
/-! ### sources: a list, a tuple, data -/
def EvS (K : PySem.W.Frag) (te : TE) (σ : L2.St) (H : Hp) (xs : List V) : Prop := ∀ H1, Ex H H1 → ∀ Q : VK, (∀ p H2, Ex H1 H2 → SqL K H2 p xs → Q (.ref p) H2) → te σ H1 Q
def EvST (K : PySem.W.Frag) (te : TE) (σ : L2.St) (H : Hp) (xs : List V) : Prop := ∀ H1, Ex H H1 → ∀ Q : VK, (∀ p H2, Ex H1 H2 → SqT K H2 p xs → Q (.ref p) H2) → te σ H1 Q
def EvD (K : PySem.W.Frag) (te : TE) (σ : L2.St) (H : Hp) (d : PyData) : Prop := ∀ H1, Ex H H1 → ∀ Q : VK, (∀ v H2, Ex H1 H2 → Dp K H2 v d → Q v H2) → te σ H1 Q
/-- any result: R of the heap ahead, the value, the heap behind -/
def EvP (te : TE) (σ : L2.St) (H : Hp) (R : Hp → V → Hp → Prop) : Prop := ∀ H1, Ex H H1 → ∀ Q : VK, (∀ v H2, Ex H1 H2 → R H1 v H2 → Q v H2) → te σ H1 Q

mutual
theorem Dp.mono {K : PySem.W.Frag} {H H' : Hp} (e : Ex H H') : ∀ {v : V} {d : PyData}, Dp K H v d → Dp K H' v d
  | _, _, .non => .non
  | _, _, .bl b => .bl b
  | _, _, .int i => .int i
  | _, _, .str x => .str x
  | _, _, .lst h hs => .lst (ex_l e h) (DpAll.mono e hs)
  | _, _, .tup h hs => .tup (ex_t e h) (DpAll.mono e hs)
theorem DpAll.mono {K : PySem.W.Frag} {H H' : Hp} (e : Ex H H') : ∀ {vs : List V} {ds : List PyData}, DpAll K H vs ds → DpAll K H' vs ds
  | _, _, .nil => .nil
  | _, _, .cons h hs => .cons (Dp.mono e h) (DpAll.mono e hs)
end
def dI (ns : List Int) : PyData := .list (ns.map PyData.int)
theorem dpAll_ints {K : PySem.W.Frag} {H : Hp} : ∀ ns : List Int, DpAll K H (ns.map V.int) (ns.map PyData.int)
  | [] => .nil
  | n :: r => .cons (.int n) (dpAll_ints r)
theorem dp_ints {K : PySem.W.Frag} {H : Hp} {a : Addr} {ns : List Int} (h : SqL K H a (ns.map V.int)) : Dp K H (.ref a) (dI ns) := .lst h (dpAll_ints ns)

section
variable {K : PySem.W.Frag} {σ : L2.St} {H H' : Hp} {ta tb tc te tl : TE} {t u : TT} {x y z v : V} {r r' : R2} {xs ys : List V} {d d' : PyData} {a : Addr}
theorem EvS.mono (e : Ex H H') (h : EvS K te σ H xs) : EvS K te σ H' xs := fun H1 e1 Q q => h H1 (e.trans e1) Q q
theorem EvD.mono (e : Ex H H') (h : EvD K te σ H d) : EvD K te σ H' d := fun H1 e1 Q q => h H1 (e.trans e1) Q q
theorem EvP.mono {R : Hp → V → Hp → Prop} (e : Ex H H') (h : EvP te σ H R) : EvP te σ H' R := fun H1 e1 Q q => h H1 (e.trans e1) Q q
theorem es_of (h : Ev te σ H (.ref a)) (hs : SqL K H a xs) : EvS K te σ H xs := fun H1 e Q q => h H1 e Q fun H2 e2 => q a H2 e2 (ex_l (e.trans e2) hs)
theorem es_new (h : EvL te σ H xs) : EvS K te σ H xs := fun H1 e Q q => h H1 e Q fun p H2 _ e2 hp => q p H2 e2 (sq_of hp)
theorem est_of (h : Ev te σ H (.ref a)) (hs : SqT K H a xs) : EvST K te σ H xs := fun H1 e Q q => h H1 e Q fun H2 e2 => q a H2 e2 (ex_t (e.trans e2) hs)
theorem est_new (h : EvU te σ H xs) : EvST K te σ H xs := fun H1 e Q q => h H1 e Q fun p H2 _ e2 hp => q p H2 e2 (st_of hp)
theorem ed_of (h : Ev te σ H v) (hd : Dp K H v d) : EvD K te σ H d := fun H1 e Q q => h H1 e Q fun H2 e2 => q v H2 e2 (Dp.mono (e.trans e2) hd)
theorem ed_ints {ns : List Int} (h : EvS K te σ H (ns.map V.int)) : EvD K te σ H (dI ns) := fun H1 e Q q => h H1 e Q fun p H2 e2 hp => q _ H2 e2 (dp_ints hp)
theorem ed_p {R : Hp → V → Hp → Prop} (h : EvP te σ H R) (hd : ∀ H1 v H2, R H1 v H2 → Dp K H2 v d) : EvD K te σ H d := fun H1 e Q q => h H1 e Q fun v H2 e2 hr => q v H2 e2 (hd _ _ _ hr)
theorem ep_v (h : Ev te σ H v) : EvP te σ H (fun _ w _ => w = v) := fun H1 e Q q => h H1 e Q fun H2 e2 => q v H2 e2 rfl
theorem ep_imp {R R' : Hp → V → Hp → Prop} (h : EvP te σ H R) (hr : ∀ H1 v H2, Ex H H1 → R H1 v H2 → R' H1 v H2) : EvP te σ H R' := fun H1 e Q q => h H1 e Q fun v H2 e2 z => q v H2 e2 (hr _ _ _ e z)
/-! ### operations -/
theorem ev_eqD (ha : EvD K ta σ H d) (hb : EvD K tb σ H d') (h1 : SeqAt.shaped d = true) (h2 : SeqAt.shaped d' = true) : Ev (tOp (rEqD K) ta tb) σ H (.bl (PyData.eqv d d')) := fun H1 e Q q =>
  ha H1 e _ fun v H2 e2 h => hb H2 (e.trans e2) _ fun w H3 e3 h' => ⟨d, d', Dp.mono e3 h, h', h1, h2, q H3 (e2.trans e3)⟩
theorem ev_neD (ha : EvD K ta σ H d) (hb : EvD K tb σ H d') (h1 : SeqAt.shaped d = true) (h2 : SeqAt.shaped d' = true) : Ev (tOp (rNeD K) ta tb) σ H (.bl (!PyData.eqv d d')) := fun H1 e Q q =>
  ha H1 e _ fun v H2 e2 h => hb H2 (e.trans e2) _ fun w H3 e3 h' => ⟨d, d', Dp.mono e3 h, h', h1, h2, q H3 (e2.trans e3)⟩
theorem ev_inD {ds : List PyData} (ha : EvD K ta σ H d) (hb : EvD K tb σ H (.list ds)) (h1 : SeqAt.shaped d = true) (h2 : SeqAt.shaped (.list ds) = true) : Ev (tOp (rInD K) ta tb) σ H (.bl (ds.any fun z => PyData.eqv z d)) := fun H1 e Q q =>
  ha H1 e _ fun v H2 e2 h => hb H2 (e.trans e2) _ fun w H3 e3 h' => ⟨d, ds, Dp.mono e3 h, h', h1, h2, q H3 (e2.trans e3)⟩
theorem ev_notInD {ds : List PyData} (ha : EvD K ta σ H d) (hb : EvD K tb σ H (.list ds)) (h1 : SeqAt.shaped d = true) (h2 : SeqAt.shaped (.list ds) = true) : Ev (tOp (rNotInD K) ta tb) σ H (.bl (!ds.any fun z => PyData.eqv z d)) := fun H1 e Q q =>
  ha H1 e _ fun v H2 e2 h => hb H2 (e.trans e2) _ fun w H3 e3 h' => ⟨d, ds, Dp.mono e3 h, h', h1, h2, q H3 (e2.trans e3)⟩
theorem ev_chain {b b' : Bool} (ha : Ev ta σ H x) (hb : Ev tb σ H y) (hr : RV r x y H (.bl b)) (hc : b = true → Ev tc σ H z) (hr' : b = true → RV r' y z H (.bl b')) : Ev (tChain r r' ta tb tc) σ H (.bl (b && b')) := fun H1 e Q q =>
  ha H1 e _ fun H2 e2 => hb H2 (e.trans e2) _ fun H3 e3 => hr H3 ((e.trans e2).trans e3) _ fun H4 e4 => ⟨b, rfl, by
    cases b with
    | true =>
      show tc σ H4 _
      refine hc rfl H4 (((e.trans e2).trans e3).trans e4) _ fun H5 e5 => ?_
      exact hr' rfl H5 ((((e.trans e2).trans e3).trans e4).trans e5) Q fun H6 e6 => q H6 ((((e2.trans e3).trans e4).trans e5).trans e6)
    | false =>
      show Q (.bl false) H4
      exact q H4 ((e2.trans e3).trans e4)⟩
theorem ev_lenS {xs : List V} (ha : EvS K ta σ H xs) : Ev (tCB (rLenS K) (tCons ta tNil)) σ H (.int (xs.length : Int)) := fun H1 e Q q =>
  ha H1 e _ fun p H2 e2 h2 => ⟨p, xs, rfl, Or.inl h2, q H2 e2⟩
theorem ev_lenT {xs : List V} (ha : EvST K ta σ H xs) : Ev (tCB (rLenS K) (tCons ta tNil)) σ H (.int (xs.length : Int)) := fun H1 e Q q =>
  ha H1 e _ fun p H2 e2 h2 => ⟨p, xs, rfl, Or.inr h2, q H2 e2⟩
theorem el_listS {xs : List V} (ha : EvS K ta σ H xs) : EvL (tCB (rListS K) (tCons ta tNil)) σ H xs := fun H1 e Q q =>
  ha H1 e _ fun p H2 e2 h2 => ⟨p, xs, rfl, Or.inl h2, fun l hl => q l _ (fresh_back e2 hl) (e2.trans (Ex.new hl)) upd_same⟩
theorem ev_sumS {ns : List Int} (ha : EvS K ta σ H (ns.map V.int)) : Ev (tCB (rSum K) (tCons ta tNil)) σ H (.int ns.sum) := fun H1 e Q q =>
  ha H1 e _ fun p H2 e2 h2 => ⟨p, ns, rfl, h2, q H2 e2⟩
theorem ev_allS {bs : List Bool} (ha : EvS K ta σ H (bs.map V.bl)) : Ev (tCB (rAll K) (tCons ta tNil)) σ H (.bl (bs.all id)) := fun H1 e Q q =>
  ha H1 e _ fun p H2 e2 h2 => ⟨p, bs, rfl, h2, q H2 e2⟩
theorem ev_anyS {bs : List Bool} (ha : EvS K ta σ H (bs.map V.bl)) : Ev (tCB (rAny K) (tCons ta tNil)) σ H (.bl (bs.any id)) := fun H1 e Q q =>
  ha H1 e _ fun p H2 e2 h2 => ⟨p, bs, rfl, h2, q H2 e2⟩
theorem ev_abs {i : Int} (ha : Ev ta σ H (.int i)) : Ev (tCB rAbs (tCons ta tNil)) σ H (.int (if i < 0 then -i else i)) := fun H1 e Q q =>
  ha H1 e _ fun H2 e2 => ⟨i, rfl, q H2 e2⟩
theorem el_slS {tl' th : TO} {lo hi : Option Int} (h : EvS K te σ H xs) (h1 : EvO tl' σ H lo) (h2 : EvO th σ H hi) : EvL (tSl (rSlL K) te tl' th) σ H (cutV xs lo hi) := fun H1 e _ q =>
  h H1 e _ fun a H2 e2 hs => h1 H2 (e.trans e2) _ fun H3 e3 => h2 H3 ((e.trans e2).trans e3) _ fun H4 e4 =>
    ⟨a, xs, rfl, ex_l (e3.trans e4) hs, fun p hp => q p _ (fresh_back ((e2.trans e3).trans e4) hp) (((e2.trans e3).trans e4).trans (Ex.new hp)) upd_same⟩
theorem ev_inS {ns : List Int} {i : Int} (ha : Ev ta σ H (.int i)) (hb : EvS K tb σ H (ns.map V.int)) : Ev (tOp (rIn K false) ta tb) σ H (.bl (inV (.int i) (ns.map V.int))) := fun H1 e Q q =>
  ha H1 e _ fun H2 e2 => hb H2 (e.trans e2) _ fun p H3 e3 h3 => ⟨p, _, rfl, Or.inl h3, rfl, by rw [List.all_map]; exact List.all_eq_true.mpr fun _ _ => rfl, q H3 (e2.trans e3)⟩
theorem ev_notInS {ns : List Int} {i : Int} (ha : Ev ta σ H (.int i)) (hb : EvS K tb σ H (ns.map V.int)) : Ev (tOp (rIn K true) ta tb) σ H (.bl (!inV (.int i) (ns.map V.int))) := fun H1 e Q q =>
  ha H1 e _ fun H2 e2 => hb H2 (e.trans e2) _ fun p H3 e3 h3 => ⟨p, _, rfl, Or.inl h3, rfl, by rw [List.all_map]; exact List.all_eq_true.mpr fun _ _ => rfl, q H3 (e2.trans e3)⟩
theorem inV_ints (i : Int) (ns : List Int) : inV (.int i) (ns.map V.int) = decide (i ∈ ns) := by
  induction ns with
  | nil => simp [inV]
  | cons n r ih =>
    have e : inV (.int i) ((n :: r).map V.int) = (eqV (.int n) (.int i) || inV (.int i) (r.map V.int)) := rfl
    rw [e, ih]
    have e2 : eqV (.int n) (.int i) = decide (n = i) := by
      show ((n == i) : Bool) = decide (n = i)
      exact Bool.beq_eq_decide_eq n i
    rw [e2, Bool.eq_iff_iff]
    simp only [Bool.or_eq_true, decide_eq_true_eq, List.mem_cons]
    exact ⟨fun h => h.elim (fun h => .inl h.symm) .inr, fun h => h.elim (fun h => .inl h.symm) .inr⟩
theorem ev_isIn {ns : List Int} {i : Int} (ha : Ev ta σ H (.int i)) (hb : EvS K tb σ H (ns.map V.int)) : Ev (tOp (rIn K false) ta tb) σ H (.bl (decide (i ∈ ns))) := ev_is (ev_inS ha hb) (by rw [inV_ints])
theorem ev_notIn {ns : List Int} {i : Int} (ha : Ev ta σ H (.int i)) (hb : EvS K tb σ H (ns.map V.int)) : Ev (tOp (rIn K true) ta tb) σ H (.bl (!decide (i ∈ ns))) := ev_is (ev_notInS ha hb) (by rw [inV_ints])
/-- in a written pair of ints -/
theorem ev_inT2 {i j k : Int} (ha : Ev ta σ H (.int i)) (hb : EvST K tb σ H [.int j, .int k]) : Ev (tOp (rIn K false) ta tb) σ H (.bl (decide (i = j ∨ i = k))) := fun H1 e Q q =>
  ha H1 e _ fun H2 e2 => hb H2 (e.trans e2) _ fun p H3 e3 h3 => ⟨p, _, rfl, Or.inr h3, rfl, rfl, by
    have w := inV_ints i [j, k]
    have w2 : inV (.int i) [V.int j, V.int k] = decide (i = j ∨ i = k) := by
      rw [show [V.int j, V.int k] = [j, k].map V.int from rfl, w]
      simp
    show Q (.bl (inV (.int i) [V.int j, V.int k])) H3
    rw [w2]
    exact q H3 (e2.trans e3)⟩
theorem ev_ixS {i : Int} (ha : EvS K ta σ H xs) (hb : Ev tb σ H (.int i)) (hx : atI xs i = some v) : Ev (tOp (rIxL K) ta tb) σ H v := fun H1 e Q q =>
  ha H1 e _ fun p H2 e2 h2 => hb H2 (e.trans e2) _ fun H3 e3 => ⟨p, xs, i, v, rfl, rfl, ex_l e3 h2, hx, q H3 (e2.trans e3)⟩
theorem ev_ixT {i : Int} (ha : EvST K ta σ H xs) (hb : Ev tb σ H (.int i)) (hx : atI xs i = some v) : Ev (tOp (rIxT K) ta tb) σ H v := fun H1 e Q q =>
  ha H1 e _ fun p H2 e2 h2 => hb H2 (e.trans e2) _ fun H3 e3 => ⟨p, xs, i, v, rfl, rfl, ex_t e3 h2, hx, q H3 (e2.trans e3)⟩
/-- isinstance -/
theorem ev_isi {c : V} {ty cv : Value} {b : Bool} (ha : Ev ta σ H x) (hc : Ev tc σ H c) (hv : ClsV c cv) (ht : ∀ H1, Ex H H1 → TyX K H1 x ty) (hk : PySem.W.kitOne K ty cv = some b) : Ev (tCB (rIsi K) (tCons ta (tCons tc tNil))) σ H (.bl b) := fun H1 e Q q =>
  ha H1 e _ fun H2 e2 => hc H2 (e.trans e2) _ fun H3 e3 => ⟨x, c, ty, cv, b, rfl, hv, ht H3 ((e.trans e2).trans e3), hk, q H3 (e2.trans e3)⟩
theorem filter_yes {α : Type} (l : List α) : (l.filter fun _ => true) = l := List.filter_eq_self.mpr fun _ _ => rfl
/-! ### comprehensions -/
/-- what holds while a new list at Dl grows: all that H1 knew stands -/
def Grow (H1 : Hp) (Dl : Addr) (ys : List V) (H' : Hp) : Prop := H1 Dl = none ∧ Ex H1 H' ∧ H' Dl = some (.lst ys)
theorem grow_turn {H1 H' : Hp} {Dl : Addr} {ys : List V} {b0 : Bool} {w : V} {σ2 : L2.St} (p : Grow H1 Dl ys H') (hz : ys.length < 100000) (ht : EvT t σ2 H1 b0) (he : b0 = true → Ev te σ2 H1 w) :
    t σ2 H' fun b H3 => if b = true then te σ2 H3 fun y H4 => ∃ acc, H4 Dl = some (.lst acc) ∧ acc.length < sizeLine ∧ Grow H1 Dl (ys ++ if b0 = true then [w] else []) (upd H4 Dl (.lst (acc ++ [y]))) else Grow H1 Dl (ys ++ if b0 = true then [w] else []) H3 := by
  obtain ⟨p1, p2, p3⟩ := p
  refine ht H' p2 _ fun H3 e3 => ?_
  cases b0 with
  | true =>
    show te σ2 H3 _
    refine he rfl H3 (p2.trans e3) _ fun H4 e4 => ⟨ys, e4 Dl _ (e3 Dl _ p3), sz_lt hz, p1, Ex.mut ((p2.trans e3).trans e4) p1, ?_⟩
    exact upd_same
  | false =>
    show Grow H1 Dl (ys ++ []) H3
    rw [List.append_nil]
    exact ⟨p1, p2.trans e3, e3 Dl _ p3⟩
theorem take_snoc {α : Type} {l : List α} {i : Nat} {x : α} (h : l[i]? = some x) : l.take (i + 1) = l.take i ++ [x] := by
  rw [List.take_add_one, h]
  rfl
/-- [e for x in xs if t], xs a list -/
theorem el_lc {j : Nat} {vs : List Nat} (f : V → Bool) (g : V → V) (h : EvS K tl σ H xs) (hz : xs.length ≤ 40000) (hw : ∀ x, wipe ((wipe σ vs).set j (some x)) vs = wipe σ vs)
    (ht : ∀ (x : V) H1, Ex H H1 → x ∈ xs → EvT t ((wipe σ vs).set j (some x)) H1 (f x)) (he : ∀ (x : V) H1, Ex H H1 → x ∈ xs → f x = true → Ev te ((wipe σ vs).set j (some x)) H1 (g x)) :
    EvL (tLc (iList K tl) (gName j) t te vs) σ H ((xs.filter f).map g) := fun H0 e Q q => h H0 e _ fun a H1 e1 hx => ⟨a, rfl, ⟨xs, hx⟩, fun Dl hD =>
  lc_list (xs := xs) (fun i => Grow H1 Dl (((xs.take i).filter f).map g)) ⟨hD, Ex.new hD, upd_same⟩ (fun i H' _ p => ex_l p.2.1 hx) (fun i x H' hi p => ⟨hw x, by
      have hm : x ∈ xs := List.mem_of_getElem? hi
      have hlen : (((xs.take i).filter f).map g).length < 100000 := by
        rw [List.length_map]
        have h1 := List.length_filter_le f (xs.take i)
        have h2 : (xs.take i).length ≤ xs.length := by rw [List.length_take]; omega
        omega
      have w := grow_turn p hlen (ht x H1 (e.trans e1) hm) (he x H1 (e.trans e1) hm)
      have e2 : (((xs.take (i + 1)).filter f).map g) = ((xs.take i).filter f).map g ++ if f x = true then [g x] else [] := by
        rw [take_snoc hi, List.filter_append, List.map_append]
        congr 1
        cases hf : f x <;> simp [hf]
      rw [e2]
      exact w⟩)
    (fun H' p => by
      rw [List.take_length] at p
      exact q Dl H' (fresh_back e1 p.1) (e1.trans p.2.1) p.2.2)⟩
/-- the same over ints -/
theorem el_lcI {ns : List Int} {j : Nat} {vs : List Nat} (f : Int → Bool) (g : Int → V) (h : EvS K tl σ H (ns.map V.int)) (hz : ns.length ≤ 40000) (hw : ∀ x, wipe ((wipe σ vs).set j (some x)) vs = wipe σ vs)
    (ht : ∀ (n : Int) H1, Ex H H1 → n ∈ ns → EvT t ((wipe σ vs).set j (some (.int n))) H1 (f n)) (he : ∀ (n : Int) H1, Ex H H1 → n ∈ ns → f n = true → Ev te ((wipe σ vs).set j (some (.int n))) H1 (g n)) :
    EvL (tLc (iList K tl) (gName j) t te vs) σ H ((ns.filter f).map g) := by
  have key : ((ns.map V.int).filter (fun v => match v with | .int n => f n | _ => false)).map (fun v => match v with | .int n => g n | _ => v) = (ns.filter f).map g := by
    clear h hz ht he
    induction ns with
    | nil => rfl
    | cons n r ih =>
      rw [List.map_cons, List.filter_cons, List.filter_cons]
      cases hf : f n <;> simp [ih, hf]
  rw [← key]
  refine el_lc _ _ h (by rw [List.length_map]; exact hz) hw (fun x H1 e hx => ?_) (fun x H1 e hx hf => ?_)
  · obtain ⟨n, hn, rfl⟩ := List.mem_map.mp hx
    exact ht n H1 e hn
  · obtain ⟨n, hn, rfl⟩ := List.mem_map.mp hx
    exact he n H1 e hn hf
/-- over range(n) -/
theorem el_lcR {ta : TA} {j : Nat} {vs : List Nat} {n : Nat} (f : Nat → Bool) (g : Nat → V) (h : EvA ta σ H [.int (n : Int)]) (hn : n ≤ 40000) (hw : ∀ x, wipe ((wipe σ vs).set j (some x)) vs = wipe σ vs)
    (ht : ∀ (i : Nat) H1, Ex H H1 → i < n → EvT t ((wipe σ vs).set j (some (.int (i : Int)))) H1 (f i)) (he : ∀ (i : Nat) H1, Ex H H1 → i < n → f i = true → Ev te ((wipe σ vs).set j (some (.int (i : Int)))) H1 (g i)) :
    EvL (tLc (iRng1 ta) (gName j) t te vs) σ H (((List.range n).filter f).map g) := by
  have w := el_lcR1 (t := t) (te := te) (vs := vs) (j := j) f g h ⟨by omega, by omega⟩ hw (fun i H1 e hi => ht i H1 e (by omega)) (fun i H1 e hi hf => he i H1 e (by omega) hf)
  rw [Int.toNat_natCast] at w
  exact w
theorem et_yes : EvT tYes σ H true := fun H1 _ _ q => q H1 (Ex.refl H1)
/-- over a tuple -/
theorem el_lcT {j : Nat} {vs : List Nat} (f : V → Bool) (g : V → V) (h : EvST K tl σ H xs) (hz : xs.length ≤ 40000) (hw : ∀ x, wipe ((wipe σ vs).set j (some x)) vs = wipe σ vs)
    (ht : ∀ (x : V) H1, Ex H H1 → x ∈ xs → EvT t ((wipe σ vs).set j (some x)) H1 (f x)) (he : ∀ (x : V) H1, Ex H H1 → x ∈ xs → f x = true → Ev te ((wipe σ vs).set j (some x)) H1 (g x)) :
    EvL (tLc (iTup K tl) (gName j) t te vs) σ H ((xs.filter f).map g) := fun H0 e Q q => h H0 e _ fun a H1 e1 hx => ⟨a, rfl, ⟨xs, hx⟩, fun Dl hD =>
  lc_tup (xs := xs) (fun i => Grow H1 Dl (((xs.take i).filter f).map g)) ⟨hD, Ex.new hD, upd_same⟩ (fun i H' _ p => ex_t p.2.1 hx) (fun i x H' hi p => ⟨hw x, by
      have hm : x ∈ xs := List.mem_of_getElem? hi
      have hlen : (((xs.take i).filter f).map g).length < 100000 := by
        rw [List.length_map]
        have h1 := List.length_filter_le f (xs.take i)
        have h2 : (xs.take i).length ≤ xs.length := by rw [List.length_take]; omega
        omega
      have w := grow_turn p hlen (ht x H1 (e.trans e1) hm) (he x H1 (e.trans e1) hm)
      have e2 : (((xs.take (i + 1)).filter f).map g) = ((xs.take i).filter f).map g ++ if f x = true then [g x] else [] := by
        rw [take_snoc hi, List.filter_append, List.map_append]
        congr 1
        cases hf : f x <;> simp [hf]
      rw [e2]
      exact w⟩)
    (fun H' p => by
      rw [List.take_length] at p
      exact q Dl H' (fresh_back e1 p.1) (e1.trans p.2.1) p.2.2)⟩
/-- over zip(xs, ys) -/
theorem el_lcZ {i j : Nat} {vs : List Nat} (f : V × V → Bool) (g : V × V → V) (ha : EvS K ta σ H xs) (hb : EvS K tb σ H ys) (hz : xs.length ≤ 40000) (hw : ∀ x y, wipe (((wipe σ vs).set i (some x)).set j (some y)) vs = wipe σ vs)
    (ht : ∀ (p : V × V) H1, Ex H H1 → p ∈ xs.zip ys → EvT t (((wipe σ vs).set i (some p.1)).set j (some p.2)) H1 (f p)) (he : ∀ (p : V × V) H1, Ex H H1 → p ∈ xs.zip ys → f p = true → Ev te (((wipe σ vs).set i (some p.1)).set j (some p.2)) H1 (g p)) :
    EvL (tLc (iZip K (tCons ta (tCons tb tNil))) (gTup K 2 (gCons (gName i) (gCons (gName j) gNil))) t te vs) σ H (((xs.zip ys).filter f).map g) := fun H0 e Q q => ha H0 e _ fun a H1 e1 hx => hb H1 (e.trans e1) _ fun b H2 e2 hy => ⟨a, b, xs, ys, rfl, ex_l e2 hx, hy, fun Dl hD => by
  have hx2 := ex_l e2 hx
  have hl : (xs.zip ys).length = min xs.length ys.length := List.length_zip
  refine ⟨fun n m H' => m = (xs.zip ys).length - n ∧ n ≤ (xs.zip ys).length ∧ Grow H2 Dl ((((xs.zip ys).take n).filter f).map g) H', ⟨(xs.zip ys).length, by simp, Nat.zero_le _, hD, Ex.new hD, upd_same⟩, ?_⟩
  rintro n m H' ⟨rfl, hn, p⟩
  by_cases hlt : n < (xs.zip ys).length
  · have h1 : n < xs.length := by omega
    have h2 : n < ys.length := by omega
    have g1 : xs[n]? = some xs[n] := List.getElem?_eq_getElem h1
    have g2 : ys[n]? = some ys[n] := List.getElem?_eq_getElem h2
    have g3 : (xs.zip ys)[n]? = some (xs[n], ys[n]) := by
      rw [List.getElem?_zip_eq_some]
      exact ⟨g1, g2⟩
    refine .inr ⟨⟨xs, ys, _, _, ex_l p.2.1 hx2, ex_l p.2.1 hy, g1, g2⟩, fun H'' => Grow H2 Dl ((((xs.zip ys).take (n + 1)).filter f).map g) H'', fun H'' z => ⟨_, by omega, rfl, hlt, z⟩, fun v H'' hv => ?_⟩
    obtain ⟨T, x, y, rfl, nT, rfl, f1, f2⟩ := hv
    have ex : x = xs[n] := Option.some.inj ((f1 _ (ex_l p.2.1 hx2)).symm.trans g1)
    have ey : y = ys[n] := Option.some.inj ((f2 _ (ex_l p.2.1 hy)).symm.trans g2)
    subst ex ey
    refine ⟨T, _, rfl, st_of upd_same, rfl, _, _, rfl, _, _, rfl, rfl, hw _ _, ?_⟩
    have hm : (xs[n], ys[n]) ∈ xs.zip ys := List.mem_of_getElem? g3
    have hlen : ((((xs.zip ys).take n).filter f).map g).length < 100000 := by
      rw [List.length_map]
      have h1 := List.length_filter_le f ((xs.zip ys).take n)
      have h2 : ((xs.zip ys).take n).length ≤ (xs.zip ys).length := by rw [List.length_take]; omega
      omega
    have p' : Grow H2 Dl ((((xs.zip ys).take n).filter f).map g) (upd H' T (.tup [xs[n], ys[n]])) := ⟨p.1, p.2.1.trans (Ex.new nT), by rw [upd_ne (ne_of_none p.2.2 nT)]; exact p.2.2⟩
    have w := grow_turn p' hlen (ht (xs[n], ys[n]) H2 ((e.trans e1).trans e2) hm) (he (xs[n], ys[n]) H2 ((e.trans e1).trans e2) hm)
    have e3 : ((((xs.zip ys).take (n + 1)).filter f).map g) = (((xs.zip ys).take n).filter f).map g ++ if f (xs[n], ys[n]) = true then [g (xs[n], ys[n])] else [] := by
      rw [take_snoc g3, List.filter_append, List.map_append]
      congr 1
      cases hf : f (xs[n], ys[n]) <;> simp [hf]
    rw [e3]
    exact w
  · refine .inl ⟨⟨xs, ys, ex_l p.2.1 hx2, ex_l p.2.1 hy, by omega⟩, ?_⟩
    have e3 : n = (xs.zip ys).length := by omega
    rw [e3, List.take_length] at p
    exact q Dl H' (fresh_back (e1.trans e2) p.1) ((e1.trans e2).trans p.2.1) p.2.2⟩
/-! ### statements -/
variable {D : Ends} {tu tw tz : TS}
/-- a, b = e, e a tuple of two -/
theorem q_unp {i j : Nat} (h : EvST K te σ H [x, y]) (k : ∀ H1, Ex H H1 → tz D ((σ.set i (some x)).set j (some y)) H1) : tSeq (tAsg te (gTup K 2 (gCons (gName i) (gCons (gName j) gNil)))) tz D σ H :=
  h H (Ex.refl H) _ fun p H1 e hp => ⟨p, [x, y], rfl, hp, rfl, x, [y], rfl, y, [], rfl, rfl, k H1 e⟩
theorem s_unp {i j : Nat} (h : EvST K te σ H [x, y]) (k : ∀ H1, Ex H H1 → D.nx ((σ.set i (some x)).set j (some y)) H1) : tAsg te (gTup K 2 (gCons (gName i) (gCons (gName j) gNil))) D σ H :=
  h H (Ex.refl H) _ fun p H1 e hp => ⟨p, [x, y], rfl, hp, rfl, x, [y], rfl, y, [], rfl, rfl, k H1 e⟩
/-- a, b = e1, e2 -/
theorem q_par {i j : Nat} (h : Ev ta σ H x) (h' : Ev tb σ H y) (k : ∀ H1, Ex H H1 → tz D ((σ.set i (some x)).set j (some y)) H1) : tSeq (tPar i j (tCons ta (tCons tb tNil))) tz D σ H :=
  h H (Ex.refl H) _ fun H1 e => h' H1 e _ fun H2 e2 => ⟨x, y, rfl, k H2 (e.trans e2)⟩
/-- if t: xs.append(e) -/
theorem q_ifApp {b : Bool} {l : Addr} (ht : EvT t σ H b) (hl : H l = some (.lst xs)) (ha : Ev ta σ H (.ref l)) (h : b = true → Ev te σ H v) (hz : xs.length < 100000) (k : ∀ H1, (∀ c o, c ≠ l → H c = some o → H1 c = some o) → H1 l = some (.lst (xs ++ if b = true then [v] else [])) → tz D σ H1) :
    tSeq (tIfS t (tDrop (tBM K "list" rAppend ta (tCons te tNil))) tNext) tz D σ H := q_when ht
  (fun hb H1 e1 => s_app (e1 l _ hl) (ha.mono e1) ((h hb).mono e1) hz fun H2 e2 => k _ (fun c o hc ho => by rw [upd_ne hc]; exact e2 _ _ (e1 _ _ ho)) (by rw [upd_same, if_pos hb]))
  (fun hb H1 e1 => k H1 (fun c o _ ho => e1 _ _ ho) (by rw [hb, if_neg Bool.false_ne_true, List.append_nil]; exact e1 _ _ hl))
theorem el_if {b : Bool} (h : EvT t σ H b) (h1 : b = true → EvL ta σ H xs) (h2 : b = false → EvL tb σ H xs) : EvL (tIf t ta tb) σ H xs := fun H1 e Q q => h H1 e _ fun H2 e2 => by
  cases b with
  | true =>
    show ta σ H2 Q
    exact h1 rfl H2 (e.trans e2) Q fun p H3 hp e3 h3 => q p H3 (fresh_back e2 hp) (e2.trans e3) h3
  | false =>
    show tb σ H2 Q
    exact h2 rfl H2 (e.trans e2) Q fun p H3 hp e3 h3 => q p H3 (fresh_back e2 hp) (e2.trans e3) h3
theorem eu_if {b : Bool} (h : EvT t σ H b) (h1 : b = true → EvU ta σ H xs) (h2 : b = false → EvU tb σ H xs) : EvU (tIf t ta tb) σ H xs := fun H1 e Q q => h H1 e _ fun H2 e2 => by
  cases b with
  | true =>
    show ta σ H2 Q
    exact h1 rfl H2 (e.trans e2) Q fun p H3 hp e3 h3 => q p H3 (fresh_back e2 hp) (e2.trans e3) h3
  | false =>
    show tb σ H2 Q
    exact h2 rfl H2 (e.trans e2) Q fun p H3 hp e3 h3 => q p H3 (fresh_back e2 hp) (e2.trans e3) h3
theorem q_asgP {R : Hp → V → Hp → Prop} {i : Nat} (h : EvP te σ H R) (k : ∀ v H1, Ex H H1 → R H v H1 → tz D (σ.set i (some v)) H1) : tSeq (tAsg te (gName i)) tz D σ H := h H (Ex.refl H) _ fun v H1 e z => k v H1 e z
theorem s_asgP {R : Hp → V → Hp → Prop} {i : Nat} (h : EvP te σ H R) (k : ∀ v H1, Ex H H1 → R H v H1 → D.nx (σ.set i (some v)) H1) : tAsg te (gName i) D σ H := h H (Ex.refl H) _ fun v H1 e z => k v H1 e z
/-- a, b = e1, e2, the second a new list -/
theorem q_parL {i j : Nat} (h : Ev ta σ H x) (h' : EvL tb σ H xs) (k : ∀ p H1, H p = none → Ex H H1 → H1 p = some (.lst xs) → tz D ((σ.set i (some x)).set j (some (.ref p))) H1) : tSeq (tPar i j (tCons ta (tCons tb tNil))) tz D σ H :=
  h H (Ex.refl H) _ fun H1 e => h' H1 e _ fun p H2 hp e2 h2 => ⟨x, _, rfl, k p H2 (fresh_back e hp) (e.trans e2) h2⟩
/-- .. the first a new list -/
theorem q_parL1 {i j : Nat} (h : EvL ta σ H xs) (h' : Ev tb σ H y) (k : ∀ p H1, H p = none → Ex H H1 → H1 p = some (.lst xs) → tz D ((σ.set i (some (.ref p))).set j (some y)) H1) : tSeq (tPar i j (tCons ta (tCons tb tNil))) tz D σ H :=
  h H (Ex.refl H) _ fun p H1 hp e h1 => h' H1 e _ fun H2 e2 => ⟨_, y, rfl, k p H2 hp (e.trans e2) (e2 _ _ h1)⟩
end
end Sd

namespace Sd
open PySem L2 Evl
local macro_rules | `(tactic| walk_at "side") => `(tactic| first
  | assumption
  | rfl
  | decide
  | omega
  | (show (0 : Int) < _; omega)
  | (show (0 : Int) < _; decide)
  | exact ⟨by omega, by omega⟩
  | exact .inl ⟨by omega, by omega⟩
  | exact .inr ⟨by omega, by omega⟩
  | exact ⟨by decide, by decide, by decide⟩)
local macro_rules | `(tactic| walk_at "rv") => `(tactic| first
  | with_reducible exact rv_I0
  | ((with_reducible refine' rv_I ?rvc); (case rvc => walk_at "side"))
  | with_reducible exact rv_eq rfl
  | with_reducible exact rv_ne rfl)
local macro_rules | `(tactic| walk_at "es") => `(tactic| first
  | with_reducible assumption
  | ((with_reducible refine' es_of ?esa ?esb); (case esa => walk_at "ev"); (case esb => with_reducible assumption))
  | ((with_reducible refine' es_new ?esa); (case esa => walk_at "el")))
local macro_rules | `(tactic| walk_at "el") => `(tactic| first
  | with_reducible assumption
  | ((with_reducible refine' el_lst ?ela ?elb); (case ela => walk_at "ea"); (case elb => simp)))
local macro_rules | `(tactic| walk_at "est") => `(tactic| first
  | with_reducible assumption
  | ((with_reducible refine' est_of ?esa ?esb); (case esa => walk_at "ev"); (case esb => with_reducible assumption))
  | ((with_reducible refine' est_new (eu_tup ?esa ?esb)); (case esa => walk_at "ea"); (case esb => simp)))
local macro_rules | `(tactic| walk_at "ev") => `(tactic| first
  | ((with_reducible refine' ev_var ?eva); (case eva => rfl))
  | with_reducible exact ev_c
  | with_reducible assumption
  | ((with_reducible refine' ev_isIn ?eva ?evb); (case eva => walk_at "ev"); (case evb => walk_at "es"))
  | ((with_reducible refine' ev_notIn ?eva ?evb); (case eva => walk_at "ev"); (case evb => walk_at "es"))
  | ((with_reducible refine' ev_inT2 ?eva ?evb); (case eva => walk_at "ev"); (case evb => walk_at "est"))
  | ((with_reducible refine' ev_ixT ?eva ?evb ?evc); (case eva => walk_at "est"); (case evb => walk_at "ev"); (case evc => rfl))
  | ((with_reducible refine' ev_op ?eva ?evb ?evc); (case eva => walk_at "ev"); (case evb => walk_at "ev"); (case evc => walk_at "rv"))
  | ((with_reducible refine' ev_un ?eva ?evb); (case eva => walk_at "ev"); (case evb => exact ru_neg))
  | ((with_reducible refine' ev_chain ?eva ?evb ?evc (fun _ => ?evd) (fun _ => ?eve)); (case eva => walk_at "ev"); (case evb => walk_at "ev"); (case evc => walk_at "rv"); (case evd => walk_at "ev"); (case eve => walk_at "rv"))
  | ((with_reducible refine' ev_notV ?eva); (case eva => walk_at "ev"))
  | ((with_reducible refine' ev_andV ?eva (fun _ => ?evb)); (case eva => walk_at "ev"); (case evb => walk_at "ev"))
  | ((with_reducible refine' ev_orV ?eva (fun _ => ?evb)); (case eva => walk_at "ev"); (case evb => walk_at "ev"))
  | ((with_reducible refine' ev_lenS ?eva); (case eva => walk_at "es"))
  | ((with_reducible refine' ev_sumS ?eva); (case eva => walk_at "es")))
local macro_rules | `(tactic| walk_at "ea") => `(tactic| first
  | with_reducible exact ea_nil
  | ((with_reducible refine' ea_cons ?eaa ?eab); (case eaa => walk_at "ev"); (case eab => walk_at "ea")))
local macro_rules | `(tactic| walk_at "et") => `(tactic| first
  | with_reducible exact et_yes
  | with_reducible assumption
  | ((with_reducible refine' et_test ?eta); (case eta => walk_at "ev"))
  | ((with_reducible refine' et_B ?eta); (case eta => walk_at "ev"))
  | ((with_reducible refine' et_not ?eta); (case eta => walk_at "et"))
  | ((with_reducible refine' et_and ?eta (fun _ => ?etb)); (case eta => walk_at "et"); (case etb => walk_at "et"))
  | ((with_reducible refine' et_or ?eta (fun _ => ?etb)); (case eta => walk_at "et"); (case etb => walk_at "et")))

/-! ### is_whole -/
/-- the classes' places -/
structure Ad where
  (cBadGrid cBadCells cBadClues cNoRing cRingError cRing cSplit cHole cOne cTwo cNever cAnswer : Addr)
def RetE (c : Addr) (H : Hp) (E : XK) : Prop := ∀ H2, Ex H H2 → E (.ref c) none H2
def plainTypes : List String := ["NoneType", "bool", "int", "str", "list", "tuple", "dict"]
def isInt : V → Bool
  | .int _ => true
  | _ => false
/-- a value whose type is known -/
def Known (K : PySem.W.Frag) (H : Hp) (v : V) (n : String) : Prop := TyX K H v (.type n) ∧ n ∈ plainTypes
section
variable {K : PySem.W.Frag} {σ : L2.St} {H H' : Hp} {v : V} {n : String}
theorem TyOf.mono (e : Ex H H') {v : V} {t : Value} (h : TyOf K H v t) : TyOf K H' v t := by
  cases h with
  | non => exact .non
  | bl x => exact .bl x
  | int i => exact .int i
  | str x => exact .str x
  | flt x => exact .flt x
  | lst h => exact .lst (e _ _ h)
  | frz h => exact .frz (e _ _ h)
  | tup h => exact .tup (e _ _ h)
  | dK h => exact .dK (e _ _ h)
  | dT h => exact .dT (e _ _ h)
  | ins h a b c d f => exact .ins (e _ _ h) a b c d f
theorem TyX.mono (e : Ex H H') {v : V} {t : Value} (h : TyX K H v t) : TyX K H' v t := by
  cases h with
  | base h => exact .base (TyOf.mono e h)
  | byt b => exact .byt b
  | set h => exact .set (e _ _ h)
  | kList a b => exact .kList a b
  | kTuple a b => exact .kTuple a b
  | kDict a b => exact .kDict a b
  | fTuple h => exact .fTuple (e _ _ h)
  | fDict h => exact .fDict (e _ _ h)
theorem Known.mono (e : Ex H H') (h : Known K H v n) : Known K H' v n := ⟨TyX.mono e h.1, h.2⟩
theorem ty_list {a : Addr} {xs : List V} (h : SqL K H a xs) : TyX K H (.ref a) (.type "list") := by
  rcases h with (h | ⟨o, h⟩) | ⟨o, its, n, h, hc, _⟩
  · exact .base (.lst h)
  · exact .base (.frz h)
  · exact .kList h hc
theorem ty_tuple {a : Addr} {xs : List V} (h : SqT K H a xs) : TyX K H (.ref a) (.type "tuple") := by
  rcases h with (h | ⟨o, h⟩) | ⟨o, its, n, h, hc, _⟩
  · exact .base (.tup h)
  · exact .fTuple h
  · exact .kTuple h hc
theorem known_int (i : Int) : Known K H (.int i) "int" := ⟨.base (.int i), by decide⟩
theorem known_dp {d : PyData} (h : Dp K H v d) : ∃ n, Known K H v n := by
  cases h with
  | non => exact ⟨_, .base .non, by decide⟩
  | bl b => exact ⟨_, .base (.bl b), by decide⟩
  | int i => exact ⟨_, known_int i⟩
  | str x => exact ⟨_, .base (.str x), by decide⟩
  | lst h _ => exact ⟨_, ty_list h, by decide⟩
  | tup h _ => exact ⟨_, ty_tuple h, by decide⟩
/-- what isinstance says of the plain types -/
theorem kit_int : ∀ n ∈ plainTypes, PySem.W.kitOne K (.type n) (.type "int") = some (n == "int" || n == "bool") := by
  intro n hn
  have : kitB n "int" = some (n == "int" || n == "bool") := by
    revert n hn
    decide +kernel
  exact kit_ty this
theorem kit_bool : ∀ n ∈ plainTypes, PySem.W.kitOne K (.type n) (.type "bool") = some (n == "bool") := by
  intro n hn
  have : kitB n "bool" = some (n == "bool") := by
    revert n hn
    decide +kernel
  exact kit_ty this
theorem kit_list : ∀ n ∈ plainTypes, PySem.W.kitOne K (.type n) (.type "list") = some (n == "list") := by
  intro n hn
  have : kitB n "list" = some (n == "list") := by
    revert n hn
    decide +kernel
  exact kit_ty this
theorem kit_tuple : ∀ n ∈ plainTypes, PySem.W.kitOne K (.type n) (.type "tuple") = some (n == "tuple") := by
  intro n hn
  have : kitB n "tuple" = some (n == "tuple") := by
    revert n hn
    decide +kernel
  exact kit_ty this
theorem int_name (h : Known K H v n) : isInt v = (n == "int") := by
  obtain ⟨h, _⟩ := h
  cases h with
  | base h => cases h <;> rfl
  | kList => rfl
  | kTuple => rfl
  | kDict => rfl
  | fTuple => rfl
  | fDict => rfl
  | byt => rfl
  | set => rfl
variable {ta : TE}
theorem ev_isiInt (ha : Ev ta σ H v) (hk : Known K H v n) : Ev (tCB (rIsi K) (tCons ta (tCons (tC (.ty "int")) tNil))) σ H (.bl (n == "int" || n == "bool")) :=
  ev_isi ha ev_c (.ty "int") (fun _ e => (hk.mono e).1) (kit_int n hk.2)
theorem ev_isiBool (ha : Ev ta σ H v) (hk : Known K H v n) : Ev (tCB (rIsi K) (tCons ta (tCons (tC (.ty "bool")) tNil))) σ H (.bl (n == "bool")) :=
  ev_isi ha ev_c (.ty "bool") (fun _ e => (hk.mono e).1) (kit_bool n hk.2)
theorem ev_isiList (ha : Ev ta σ H v) (hk : Known K H v n) : Ev (tCB (rIsi K) (tCons ta (tCons (tC (.ty "list")) tNil))) σ H (.bl (n == "list")) :=
  ev_isi ha ev_c (.ty "list") (fun _ e => (hk.mono e).1) (kit_list n hk.2)
theorem ev_isiTuple (ha : Ev ta σ H v) (hk : Known K H v n) : Ev (tCB (rIsi K) (tCons ta (tCons (tC (.ty "tuple")) tNil))) σ H (.bl (n == "tuple")) :=
  ev_isi ha ev_c (.ty "tuple") (fun _ e => (hk.mono e).1) (kit_tuple n hk.2)
end
theorem whole_names : ∀ n ∈ plainTypes, ((n == "int" || n == "bool") && !(n == "bool")) = (n == "int") := by decide +kernel
def sp_is_whole (K : PySem.W.Frag) : Sp := fun vs H Q _ => ∃ v n, vs = [v] ∧ Known K H v n ∧ RetV (.bl (isInt v)) H Q
theorem ev_is_whole {K : PySem.W.Frag} {σ : L2.St} {H : Hp} {ta : TA} {E : XK} {v : V} {n : String} (ha : EvA ta σ H [v]) (hk : Known K H v n) : Ev (tCall (sp_is_whole K) [] E ta) σ H (.bl (isInt v)) := fun H1 e Q q =>
  ha H1 e _ fun H2 e2 => ⟨v, n, rfl, hk.mono (e.trans e2), fun H3 e3 => q H3 (e2.trans e3)⟩
def t_is_whole (K : PySem.W.Frag) : TS := (tRet (tAndV (tCB (rIsi K) (tCons (tVar 0) (tCons (tC (.ty "int")) tNil))) (tNotV (tCB (rIsi K) (tCons (tVar 0) (tCons (tC (.ty "bool")) tNil))))))
theorem pure_is_whole {K : PySem.W.Frag} {vs : List V} {H : Hp} {Q : VK} {E : XK} {D : Ends} (hD : D.rt = Q) (h : sp_is_whole K vs H Q E) : t_is_whole K D (start ["thing"] vs) H := by
  obtain ⟨v, n, rfl, hk, q⟩ := h
  subst hD
  refine s_ret (ev_andV (ev_isiInt (ev_var rfl) hk) (fun _ => ev_notV (ev_isiBool (ev_var rfl) hk))) fun H1 e1 => ?_
  have e : ((n == "int" || n == "bool") && !(n == "bool")) = isInt v := by
    rw [int_name hk]
    exact whole_names n hk.2
  rw [e]
  exact q H1 e1
/-! ### check_grid -/
/-- what is no grid -/
def badDim (v : V) : Prop := ∀ n, v = .int n → ¬ (1 ≤ n ∧ n ≤ 6)
def BadG (K : PySem.W.Frag) (H : Hp) (v : V) : Prop := (∃ n, Known K H v n ∧ n ≠ "tuple") ∨ ∃ a xs, v = .ref a ∧ SqT K H a xs ∧ xs.length ≤ 1000 ∧ (∀ x ∈ xs, ∃ n, Known K H x n) ∧ (xs.length ≠ 2 ∨ ∃ x ∈ xs, badDim x)
def sp_check_grid (K : PySem.W.Frag) (C : Ad) : Sp := fun vs H Q E => ∃ v, vs = [v] ∧
  ((∃ g h w, v = .ref g ∧ SqT K H g [.int ((h : Nat) : Int), .int ((w : Nat) : Int)] ∧ GOk h w ∧ RetV .non H Q) ∨ (BadG K H v ∧ RetE C.cBadGrid H E))

def t_check_grid (K : PySem.W.Frag) (C : Ad) (E : XK) : TS := (tIfS (tOr (tNot (tB (tCB (rIsi K) (tCons (tVar 0) (tCons (tC (.ty "tuple")) tNil))))) (tOr (tTest (tOp rNe (tCB (rLenS K) (tCons (tVar 0) tNil)) (tC (.int 2)))) (tNot (tB (tCB (rAll K) (tCons (tLc (iTup K (tVar 0)) (gName 1) tYes (tAndV (tCall (sp_is_whole K) [] E0 (tCons (tVar 1) tNil)) (tChain oLe oLe (tC (.int 1)) (tVar 1) (tC (.int 6)))) [1]) tNil)))))) (tRaise E (.ref C.cBadGrid)) tNext)
theorem known_grid {K : PySem.W.Frag} {H : Hp} {h w : Int} : ∀ x ∈ [V.int h, V.int w], ∃ n, Known K H x n := fun x hx => by
  rcases List.mem_cons.mp hx with e | hx
  · rw [e]; exact ⟨_, known_int h⟩
  · rcases List.mem_cons.mp hx with e | hx
    · rw [e]; exact ⟨_, known_int w⟩
    · cases hx
/-- a whole number within -/
def inRange (lo hi : Int) : V → Bool
  | .int n => decide (lo ≤ n) && decide (n ≤ hi)
  | _ => false
theorem isInt_of {v : V} (h : isInt v = true) : ∃ n, v = .int n := by
  cases v with
  | int n => exact ⟨n, rfl⟩
  | _ => cases h
theorem all_dims {K : PySem.W.Frag} {H : Hp} {g : Addr} {xs : List V} {N : List Str} (hN : N.length = 2) (hs : SqT K H g xs) (hl : xs.length ≤ 1000) (hk : ∀ x ∈ xs, ∃ n, Known K H x n) :
    Ev (tCB (rAll K) (tCons (tLc (iTup K (tVar 0)) (gName 1) tYes (tAndV (tCall (sp_is_whole K) [] E0 (tCons (tVar 1) tNil)) (tChain oLe oLe (tC (.int 1)) (tVar 1) (tC (.int 6)))) [1]) tNil)) [some (.ref g), none] H (.bl (xs.all (inRange 1 6))) := by
  have e : (((xs.filter fun _ => true).map fun x => V.bl (inRange 1 6 x))) = (xs.map (inRange 1 6)).map V.bl := by
    rw [filter_yes, List.map_map]
    rfl
  have w : EvL (tLc (iTup K (tVar 0)) (gName 1) tYes (tAndV (tCall (sp_is_whole K) [] E0 (tCons (tVar 1) tNil)) (tChain oLe oLe (tC (.int 1)) (tVar 1) (tC (.int 6)))) [1]) [some (.ref g), none] H ((xs.map (inRange 1 6)).map V.bl) := by
    rw [← e]
    refine el_lcT (fun _ => true) _ (est_of (ev_var rfl) hs) (by omega) (fun x => rfl) (fun x H1 e1 hx => et_yes) (fun x H1 e1 hx _ => ?_)
    obtain ⟨n, hn⟩ := hk x hx
    have r : inRange 1 6 x = (isInt x && inRange 1 6 x) := by cases x <;> rfl
    rw [r]
    refine ev_andV (ev_is_whole (ea_cons (ev_var rfl) ea_nil) (hn.mono e1)) (fun hi => ?_)
    obtain ⟨m, rfl⟩ := isInt_of hi
    exact ev_chain ev_c (ev_var rfl) rv_I0 (fun _ => ev_c) (fun _ => rv_I0)
  have z := ev_allS (K := K) (es_new (K := K) w)
  rw [List.all_map] at z
  exact z
theorem pure_check_grid {K : PySem.W.Frag} {C : Ad} {vs : List V} {H : Hp} {Q : VK} {E : XK} {D : Ends} (hD : D.nx = fun _ H' => Q .non H') (h : sp_check_grid K C vs H Q E) : t_check_grid K C E D (start ["grid", "one"] vs) H := by
  obtain ⟨v, rfl, h⟩ := h
  rcases h with ⟨g, h, w, rfl, hs, gk, q⟩ | ⟨hb, q⟩
  · have a := all_dims (N := ["grid", "one"]) rfl hs (by simp) known_grid
    refine s_when (et_or (et_not (et_B (ev_isiTuple (ev_var rfl) ⟨ty_tuple hs, by decide⟩))) (fun _ => et_or (et_test (ev_op (ev_lenT (est_of (ev_var rfl) hs)) ev_c (rv_ne rfl))) (fun _ => et_not (et_B a)))) (fun hb => ?_) (fun _ H1 e1 => ?_)
    · exfalso
      obtain ⟨g1, g2, g3, g4⟩ := gk
      have e : ([V.int (h : Int), V.int (w : Int)].all (inRange 1 6)) = true := by
        simp only [List.all_cons, List.all_nil, inRange, Bool.and_true, Bool.and_eq_true, decide_eq_true_eq]
        omega
      rw [e] at hb
      revert hb
      simp
    · rw [hD]
      exact q H1 e1
  · rcases hb with ⟨n, hk, hn⟩ | ⟨a, xs, rfl, hs, hl, hk, hb⟩
    · have e : (n == "tuple") = false := by simpa using hn
      refine s_when (b := true) (et_is (et_or (b := true) (et_not (et_B (ev_isiTuple (ev_var rfl) hk))) (fun z => ?_)) (by rw [e]; rfl)) (fun _ H1 e1 => q H1 e1) (fun z => nomatch z)
      rw [e] at z
      cases z
    · have a := all_dims (N := ["grid", "one"]) rfl hs hl hk
      refine s_when (et_or (et_not (et_B (ev_isiTuple (ev_var rfl) ⟨ty_tuple hs, by decide⟩))) (fun _ => et_or (et_test (ev_op (ev_lenT (est_of (ev_var rfl) hs)) ev_c (rv_ne rfl))) (fun _ => et_not (et_B a)))) (fun _ H1 e1 => q H1 e1) (fun z => ?_)
      exfalso
      rcases hb with hb | ⟨x, hx, hb⟩
      · have e : decide (V.int (xs.length : Int) = V.int 2) = false := decide_eq_false fun z => hb (by have := V.int.inj z; omega)
        rw [e] at z
        simp at z
      · have e : xs.all (inRange 1 6) = false := by
          rw [List.all_eq_false]
          refine ⟨x, hx, ?_⟩
          cases x with
          | int n =>
            have := hb n rfl
            simp only [inRange, Bool.and_eq_true, decide_eq_true_eq]
            exact this
          | _ => simp [inRange]
        rw [e] at z
        simp at z
theorem ev_check_grid {K : PySem.W.Frag} {C : Ad} {σ : L2.St} {H : Hp} {ta : TA} {E : XK} {g : Addr} {h w : Nat} (ha : EvA ta σ H [.ref g]) (hs : SqT K H g [.int (h : Int), .int (w : Int)]) (gk : GOk h w) : Ev (tCall (sp_check_grid K C) [] E ta) σ H .non := fun H1 e Q q =>
  ha H1 e _ fun H2 e2 => ⟨_, rfl, .inl ⟨g, h, w, rfl, ex_t (e.trans e2) hs, gk, fun H3 e3 => q H3 (e2.trans e3)⟩⟩

/-! ### check_cells -/
/-- a whole number from 0, below m -/
def inCells (m : Int) : V → Bool
  | .int n => decide (0 ≤ n) && decide (n < m)
  | _ => false
def BadC (K : PySem.W.Frag) (H : Hp) (m : Int) (v : V) : Prop := (∃ n, Known K H v n ∧ n ≠ "list") ∨ ∃ a xs ds, v = .ref a ∧ SqL K H a xs ∧ DpAll K H xs ds ∧ SeqAt.shaped (.list ds) = true ∧ xs.length ≤ 1000 ∧
  (xs = [] ∨ xs.all (inCells m) = false ∨ ∃ ns : List Int, xs = ns.map V.int ∧ ¬ Rising ns)
def sp_check_cells (K : PySem.W.Frag) (C : Ad) : Sp := fun vs H Q E => ∃ g h w v, vs = [.ref g, v] ∧ SqT K H g [.int ((h : Nat) : Int), .int ((w : Nat) : Int)] ∧ GOk h w ∧
  ((∃ c cs, v = .ref c ∧ SqL K H c (cs.map V.int) ∧ COk h w cs ∧ RetV .non H Q) ∨ (BadC K H ((h : Int) * w) v ∧ RetE C.cBadCells H E))
def t_check_cells (K : PySem.W.Frag) (C : Ad) (E : XK) : TS := (tSeq (tAsg (tOp oMul (tOp (rIxT K) (tVar 0) (tC (.int 0))) (tOp (rIxT K) (tVar 0) (tC (.int 1)))) (gName 2))
      (tSeq (tIfS (tOr (tNot (tB (tCB (rIsi K) (tCons (tVar 1) (tCons (tC (.ty "list")) tNil))))) (tOr (tTest (tOp (rEqD K) (tVar 1) (tLst tNil))) (tNot (tB (tCB (rAll K) (tCons (tLc (iList K (tVar 1)) (gName 3) tYes (tAndV (tCall (sp_is_whole K) [] E0 (tCons (tVar 3) tNil)) (tChain oLe oLt (tC (.int 0)) (tVar 3) (tVar 2))) [3]) tNil)))))) (tRaise E (.ref C.cBadCells)) tNext)
      (tIfS (tB (tCB (rAny K) (tCons (tLc (iZip K (tCons (tVar 1) (tCons (tSl (rSlL K) (tVar 1) (tPart (tC (.int 1))) tNoPart) tNil))) (gTup K 2 (gCons (gName 3) (gCons (gName 4) gNil))) tYes (tOp oGe (tVar 3) (tVar 4)) [3, 4]) tNil))) (tRaise E (.ref C.cBadCells)) tNext)))
theorem shaped_of_len {ds : List PyData} (h1 : PyData.canLayAll0 ds = true) (h2 : PyData.depthAll ds ≤ 63) : SeqAt.shaped (.list ds) = true := by
  have e1 : PyData.canLay0 (.list ds) = true := by
    rw [PyData.canLay0]
    exact h1
  have e2 : PyData.depth (.list ds) ≤ 64 := by
    rw [PyData.depth]
    omega
  unfold SeqAt.shaped
  rw [e1, decide_eq_true e2]
  rfl
theorem lay_ints : ∀ ns : List Int, PyData.canLayAll0 (ns.map PyData.int) = true
  | [] => rfl
  | n :: r => by simp [PyData.canLayAll0, PyData.canLay0, lay_ints r]
theorem depth_ints : ∀ ns : List Int, PyData.depthAll (ns.map PyData.int) ≤ 1
  | [] => by simp [PyData.depthAll]
  | n :: r => by
    have := depth_ints r
    simp only [List.map_cons, PyData.depthAll, PyData.depth]
    omega
theorem shaped_ints (ns : List Int) : SeqAt.shaped (dI ns) = true := shaped_of_len (lay_ints ns) (by have := depth_ints ns; omega)
theorem shaped_nil : SeqAt.shaped (.list []) = true := shaped_ints []
theorem ed_nil {K : PySem.W.Frag} {σ : L2.St} {H : Hp} : EvD K (tLst tNil) σ H (.list []) := fun H1 e Q q => el_lst (σ := σ) (H := H) ea_nil (by simp) H1 e Q fun p H2 _ e2 hp => q _ H2 e2 (.lst (sq_of hp) .nil)
theorem eqv_nil (ds : List PyData) : PyData.eqv (.list ds) (.list []) = decide (ds = []) := by
  cases ds <;> simp [PyData.eqv, PyData.eqvAll]
theorem dpAll_len {K : PySem.W.Frag} {H : Hp} : ∀ {xs : List V} {ds : List PyData}, DpAll K H xs ds → xs.length = ds.length
  | _, _, .nil => rfl
  | _, _, .cons _ h => by rw [List.length_cons, List.length_cons, dpAll_len h]
theorem dpAll_mem {K : PySem.W.Frag} {H : Hp} : ∀ {xs : List V} {ds : List PyData}, DpAll K H xs ds → ∀ x ∈ xs, ∃ d, Dp K H x d
  | _, _, .cons h hs, x, hx => by
    rcases List.mem_cons.mp hx with e | hx
    · rw [e]; exact ⟨_, h⟩
    · exact dpAll_mem hs x hx
theorem all_cells {K : PySem.W.Frag} {H : Hp} {a : Addr} {xs : List V} {m : Int} {y0 : Option V} (hs : SqL K H a xs) (hl : xs.length ≤ 1000) (hk : ∀ x ∈ xs, ∃ n, Known K H x n) :
    Ev (tCB (rAll K) (tCons (tLc (iList K (tVar 1)) (gName 3) tYes (tAndV (tCall (sp_is_whole K) [] E0 (tCons (tVar 3) tNil)) (tChain oLe oLt (tC (.int 0)) (tVar 3) (tVar 2))) [3]) tNil)) [y0, some (.ref a), some (.int m), none, none] H (.bl (xs.all (inCells m))) := by
  have e : (((xs.filter fun _ => true).map fun x => V.bl (inCells m x))) = (xs.map (inCells m)).map V.bl := by
    rw [filter_yes, List.map_map]
    rfl
  have w : EvL (tLc (iList K (tVar 1)) (gName 3) tYes (tAndV (tCall (sp_is_whole K) [] E0 (tCons (tVar 3) tNil)) (tChain oLe oLt (tC (.int 0)) (tVar 3) (tVar 2))) [3]) [y0, some (.ref a), some (.int m), none, none] H ((xs.map (inCells m)).map V.bl) := by
    rw [← e]
    refine el_lc (fun _ => true) _ (es_of (ev_var rfl) hs) (by omega) (fun x => rfl) (fun x H1 e1 hx => et_yes) (fun x H1 e1 hx _ => ?_)
    obtain ⟨n, hn⟩ := hk x hx
    have r : inCells m x = (isInt x && inCells m x) := by cases x <;> rfl
    rw [r]
    refine ev_andV (ev_is_whole (ea_cons (ev_var rfl) ea_nil) (hn.mono e1)) (fun hi => ?_)
    obtain ⟨k, rfl⟩ := isInt_of hi
    exact ev_chain ev_c (ev_var rfl) rv_I0 (fun _ => ev_var rfl) (fun _ => rv_I0)
  have z := ev_allS (K := K) (es_new (K := K) w)
  rw [List.all_map] at z
  exact z
theorem cut1 (xs : List V) : cutV xs (some 1) none = xs.drop 1 := by
  unfold cutV
  rw [show HT.sIx xs.length 0 (some 1) = min 1 xs.length from HT.sIx_nat xs.length 0 1, HT.sIx_none]
  cases xs with
  | nil => rfl
  | cons x r =>
    rw [show min 1 (x :: r).length = 1 by rw [List.length_cons]; omega]
    show (List.take ((x :: r).length - 1) r) = r
    rw [List.length_cons, Nat.add_sub_cancel]
    exact List.take_length
/-- neighbours that do not rise -/
def falls : List Int → Bool
  | x :: y :: r => decide (y ≤ x) || falls (y :: r)
  | _ => false
theorem falls_eq : ∀ ns : List Int, ((ns.zip (ns.drop 1)).map fun p => decide (p.2 ≤ p.1)).any id = falls ns
  | [] => rfl
  | [_] => rfl
  | x :: y :: r => by
    have ih := falls_eq (y :: r)
    simp only [List.drop_succ_cons, List.drop_zero] at ih ⊢
    rw [List.zip_cons_cons, List.map_cons, List.any_cons, ih]
    rfl
theorem falls_rising : ∀ ns : List Int, falls ns = false ↔ Rising ns
  | [] => ⟨fun _ => .nil, fun _ => rfl⟩
  | [x] => ⟨fun _ => List.pairwise_singleton _ x, fun _ => rfl⟩
  | x :: y :: r => by
    have ih := falls_rising (y :: r)
    unfold Rising at ih ⊢
    have e : falls (x :: y :: r) = (decide (y ≤ x) || falls (y :: r)) := rfl
    rw [e, Bool.or_eq_false_iff, ih, decide_eq_false_iff_not]
    constructor
    · rintro ⟨h1, h2⟩
      refine List.pairwise_cons.mpr ⟨fun z hz => ?_, h2⟩
      rcases List.mem_cons.mp hz with rfl | hz
      · omega
      · have := List.rel_of_pairwise_cons h2 hz
        omega
    · intro h
      obtain ⟨h1, h2⟩ := List.pairwise_cons.mp h
      exact ⟨by have := h1 y List.mem_cons_self; omega, h2⟩
theorem any_falls {K : PySem.W.Frag} {H : Hp} {a : Addr} {ns : List Int} {y0 y2 : Option V} (hs : SqL K H a (ns.map V.int)) (hl : ns.length ≤ 1000) :
    Ev (tCB (rAny K) (tCons (tLc (iZip K (tCons (tVar 1) (tCons (tSl (rSlL K) (tVar 1) (tPart (tC (.int 1))) tNoPart) tNil))) (gTup K 2 (gCons (gName 3) (gCons (gName 4) gNil))) tYes (tOp oGe (tVar 3) (tVar 4)) [3, 4]) tNil)) [y0, some (.ref a), y2, none, none] H (.bl (falls ns)) := by
  have s2 : EvL (tSl (rSlL K) (tVar 1) (tPart (tC (.int 1))) tNoPart) [y0, some (.ref a), y2, none, none] H ((ns.drop 1).map V.int) := by
    have := el_sl (K := K) (te := tVar 1) (σ := [y0, some (.ref a), y2, none, none]) (H := H) (ev_var (i := 1) rfl) (eo_some ev_c) eo_none hs (lo := some 1)
    rw [cut1, ← List.map_drop] at this
    exact this
  have w := el_lcZ (K := K) (t := tYes) (te := tOp oGe (tVar 3) (tVar 4)) (σ := [y0, some (.ref a), y2, none, none]) (H := H) (i := 3) (j := 4) (vs := [3, 4]) (fun _ => true) (fun p => match p with | (.int x, .int y) => V.bl (decide (y ≤ x)) | _ => .non)
    (es_of (ev_var (i := 1) rfl) hs) (es_new s2) (by rw [List.length_map]; omega) (fun x y => rfl) (fun _ _ _ _ => et_yes) (fun p H1 e1 hp _ => by
      obtain ⟨x, y⟩ := p
      have hz := List.of_mem_zip hp
      obtain ⟨m, _, rfl⟩ := List.mem_map.mp hz.1
      obtain ⟨k, _, rfl⟩ := List.mem_map.mp hz.2
      exact ev_op (x := .int m) (y := .int k) (ev_var rfl) (ev_var rfl) rv_I0)
  have e : ((((ns.map V.int).zip ((ns.drop 1).map V.int)).filter fun _ => true).map (fun p => match p with | (.int x, .int y) => V.bl (decide (y ≤ x)) | _ => .non)) = ((ns.zip (ns.drop 1)).map fun p => decide (p.2 ≤ p.1)).map V.bl := by
    rw [filter_yes, List.zip_map, List.map_map, List.map_map]
    rfl
  rw [e] at w
  have z := ev_anyS (K := K) (es_new (K := K) w)
  rw [falls_eq] at z
  exact z
theorem rising_len {m : Int} : ∀ (cs : List Int) (lo : Int), Rising cs → (∀ x ∈ cs, lo ≤ x ∧ x < m) → (cs.length : Int) ≤ max 0 (m - lo)
  | [], _, _, _ => by simp; omega
  | x :: r, lo, h, hb => by
    have h1 := (List.pairwise_cons.mp h).1
    have ih := rising_len r (x + 1) (List.pairwise_cons.mp h).2 (fun y hy => ⟨by have := h1 y hy; omega, (hb y (List.mem_cons_of_mem _ hy)).2⟩)
    have hx := hb x List.mem_cons_self
    rw [List.length_cons]
    omega
theorem cok_len {h w : Nat} {cs : List Int} (gk : GOk h w) (c : COk h w cs) : cs.length ≤ 36 := by
  have := rising_len cs 0 c.2.2 c.2.1
  have := hw_le gk
  omega
theorem pure_check_cells {K : PySem.W.Frag} {C : Ad} {vs : List V} {H : Hp} {Q : VK} {E : XK} {D : Ends} (hD : D.nx = fun _ H' => Q .non H') (h : sp_check_cells K C vs H Q E) : t_check_cells K C E D (start ["grid", "cells", "many", "one", "other"] vs) H := by
  obtain ⟨g, h, w, v, rfl, hg, gk, hv⟩ := h
  change t_check_cells K C E D [some (.ref g), some v, none, none, none] H
  have hwl := hw_le gk
  have gb := gk
  obtain ⟨g1, g2, g3, g4⟩ := gb
  refine q_asg (v := .int ((h : Int) * w)) (by walk_at "ev") fun H1 e1 => ?_
  rcases hv with ⟨c, cs, rfl, hc, ck, q⟩ | ⟨hb, q⟩
  · have cl := cok_len gk ck
    have hc1 := ex_l e1 hc
    have kn : ∀ x ∈ cs.map V.int, ∃ n, Known K H1 x n := fun x hx => by
      obtain ⟨m, _, rfl⟩ := List.mem_map.mp hx
      exact ⟨_, known_int m⟩
    have a := all_cells (K := K) (H := H1) (y0 := some (.ref g)) (m := (h : Int) * w) hc1 (by rw [List.length_map]; omega) kn
    have ea : (cs.map V.int).all (inCells ((h : Int) * w)) = true := by
      rw [List.all_map]
      refine List.all_eq_true.mpr fun x hx => ?_
      have := ck.2.1 x hx
      simp only [Function.comp, inCells, Bool.and_eq_true, decide_eq_true_eq]
      exact this
    rw [ea] at a
    have en : PyData.eqv (dI cs) (.list []) = false := by
      unfold dI
      rw [eqv_nil]
      simp [ck.1]
    refine q_when (b := false) (et_is (et_or (b := false) (et_not (et_B (ev_isiList (ev_var rfl) ⟨ty_list hc1, by decide⟩))) (fun _ => et_is (et_or (et_test (ev_eqD (ed_ints (es_of (ev_var rfl) hc1)) ed_nil (shaped_ints cs) shaped_nil)) (fun _ => et_not (et_B a))) (by rw [en]; rfl))) (by simp)) (fun z => nomatch z) (fun _ H2 e2 => ?_)
    have f := any_falls (K := K) (H := H2) (ns := cs) (y0 := some (.ref g)) (y2 := some (.int ((h : Int) * w))) (ex_l e2 hc1) (by omega)
    rw [(falls_rising cs).mpr ck.2.2] at f
    refine s_when (et_B f) (fun z => nomatch z) (fun _ H3 e3 => ?_)
    rw [hD]
    exact q H3 ((e1.trans e2).trans e3)
  · have q1 : ∀ H2, Ex H1 H2 → E (.ref C.cBadCells) none H2 := fun H2 e2 => q H2 (e1.trans e2)
    rcases hb with ⟨n, hk, hn⟩ | ⟨a, xs, ds, rfl, hs, hd, hsh, hl, hb⟩
    · have e : (n == "list") = false := by simpa using hn
      refine q_when (b := true) (et_is (et_or (b := true) (et_not (et_B (ev_isiList (ev_var rfl) (hk.mono e1)))) (fun z => ?_)) (by rw [e]; rfl)) (fun _ H2 e2 => q1 H2 e2) (fun z => nomatch z)
      rw [e] at z
      cases z
    · have hs1 := ex_l e1 hs
      have hd1 := DpAll.mono e1 hd
      have kn : ∀ x ∈ xs, ∃ n, Known K H1 x n := fun x hx => by
        obtain ⟨d, hd⟩ := dpAll_mem hd1 x hx
        exact known_dp hd
      have a1 := all_cells (K := K) (H := H1) (y0 := some (.ref g)) (m := (h : Int) * w) hs1 hl kn
      have t := et_or (et_not (et_B (ev_isiList (K := K) (σ := [some (.ref g), some (.ref a), some (.int ((h : Int) * w)), none, none]) (H := H1) (ta := tVar 1) (ev_var rfl) ⟨ty_list hs1, by decide⟩))) (fun _ => et_or (et_test (ev_eqD (ed_of (ev_var (i := 1) rfl) (.lst hs1 hd1)) ed_nil hsh shaped_nil)) (fun _ => et_not (et_B a1)))
      refine q_when t (fun _ H2 e2 => q1 H2 e2) (fun z H2 e2 => ?_)
      rcases hb with hb | hb | ⟨ns, rfl, hr⟩
      · exfalso
        subst hb
        have : ds = [] := by
          have := dpAll_len hd
          cases ds with
          | nil => rfl
          | cons _ _ => simp at this
        subst this
        simp [PyData.eqv, PyData.eqvAll] at z
      · rw [hb] at z
        simp at z
      · rw [List.length_map] at hl
        have f := any_falls (K := K) (H := H2) (ns := ns) (y0 := some (.ref g)) (y2 := some (.int ((h : Int) * w))) (ex_l e2 hs1) hl
        have fr : falls ns = true := by
          cases hf : falls ns with
          | true => rfl
          | false => exact absurd ((falls_rising ns).mp hf) hr
        rw [fr] at f
        exact s_when (et_B f) (fun _ H3 e3 => q1 H3 (e2.trans e3)) (fun z => nomatch z)
theorem ev_check_cells {K : PySem.W.Frag} {C : Ad} {σ : L2.St} {H : Hp} {ta : TA} {E : XK} {g c : Addr} {h w : Nat} {cs : List Int} (ha : EvA ta σ H [.ref g, .ref c]) (hs : SqT K H g [.int (h : Int), .int (w : Int)]) (gk : GOk h w) (hc : SqL K H c (cs.map V.int)) (ck : COk h w cs) : Ev (tCall (sp_check_cells K C) [] E ta) σ H .non := fun H1 e Q q =>
  ha H1 e _ fun H2 e2 => ⟨g, h, w, _, rfl, ex_t (e.trans e2) hs, gk, .inl ⟨c, cs, rfl, ex_l (e.trans e2) hc, ck, fun H3 e3 => q H3 (e2.trans e3)⟩⟩

/-! ### new lists of new lists -/
def NewLL (H1 : Hp) (v : V) (H2 : Hp) (xss : List (List V)) : Prop := ∃ p ps, v = .ref p ∧ H1 p = none ∧ H2 p = some (.lst (ps.map V.ref)) ∧ Paired (fun (q : Addr) xs => H1 q = none ∧ H2 q = some (.lst xs)) ps xss
def ints2 (nss : List (List Int)) : List (List V) := nss.map fun ns => ns.map V.int
def dII (nss : List (List Int)) : PyData := .list (nss.map dI)
def RetP (R : Hp → V → Hp → Prop) (H : Hp) (Q : VK) : Prop := ∀ v H2, Ex H H2 → R H v H2 → Q v H2
theorem NewLL.back {H0 H1 H2 : Hp} {v : V} {xss : List (List V)} (e : Ex H0 H1) (h : NewLL H1 v H2 xss) : NewLL H0 v H2 xss := by
  obtain ⟨p, ps, rfl, hp, h2, hr⟩ := h
  exact ⟨p, ps, rfl, fresh_back e hp, h2, Paired.mapP hr fun q xs z => ⟨fresh_back e z.1, z.2⟩⟩
theorem NewLL.on {H1 H2 H3 : Hp} {v : V} {xss : List (List V)} (e : Ex H2 H3) (h : NewLL H1 v H2 xss) : NewLL H1 v H3 xss := by
  obtain ⟨p, ps, rfl, hp, h2, hr⟩ := h
  exact ⟨p, ps, rfl, hp, e _ _ h2, Paired.mapP hr fun q xs z => ⟨z.1, e _ _ z.2⟩⟩
theorem dpAll_rows {K : PySem.W.Frag} {H1 H2 : Hp} : ∀ {ps : List Addr} {nss : List (List Int)}, Paired (fun (q : Addr) xs => H1 q = none ∧ H2 q = some (.lst xs)) ps (ints2 nss) → DpAll K H2 (ps.map V.ref) (nss.map dI)
  | [], [], .nil => .nil
  | p :: ps, ns :: nss, .cons h hs => .cons (dp_ints (sq_of h.2)) (dpAll_rows hs)
theorem NewLL.dp {K : PySem.W.Frag} {H1 H2 : Hp} {v : V} {nss : List (List Int)} (h : NewLL H1 v H2 (ints2 nss)) : Dp K H2 v (dII nss) := by
  obtain ⟨p, ps, rfl, hp, h2, hr⟩ := h
  exact .lst (sq_of h2) (dpAll_rows hr)
section
variable {K : PySem.W.Frag} {σ : L2.St} {H H' : Hp} {te : TE} {t : TT}
theorem paired_snoc {α β : Type} {F : α → β → Prop} : ∀ {l : List α} {m : List β} {a : α} {b : β}, Paired F l m → F a b → Paired F (l ++ [a]) (m ++ [b])
  | [], [], _, _, .nil, h => .cons h .nil
  | _ :: _, _ :: _, _, _, .cons g gs, h => .cons g (paired_snoc gs h)
/-- [e for i in range(n)], e a new list -/
theorem ep_lcRL {ta : TA} {j : Nat} {vs : List Nat} {n : Nat} (g : Nat → List V) (h : EvA ta σ H [.int (n : Int)]) (hn : n ≤ 40000) (hw : ∀ x, wipe ((wipe σ vs).set j (some x)) vs = wipe σ vs)
    (he : ∀ (i : Nat) H1, Ex H H1 → i < n → EvL te ((wipe σ vs).set j (some (.int (i : Int)))) H1 (g i)) :
    EvP (tLc (iRng1 ta) (gName j) tYes te vs) σ H (fun H1 v H2 => NewLL H1 v H2 ((List.range n).map g)) := fun H0 e Q q => h H0 e _ fun H1 e1 => ⟨(n : Int), rfl, by omega, by omega, fun Dl hD => by
  have e0 : ((n : Int)).toNat = n := Int.toNat_natCast n
  rw [e0]
  refine lc_range (lo := 0) (n := n) (fun i H' => H1 Dl = none ∧ Ex H1 H' ∧ i ≤ n ∧ ∃ ps, H' Dl = some (.lst (ps.map V.ref)) ∧ ps.length = i ∧ Paired (fun (q : Addr) xs => (H1 q = none ∧ q ≠ Dl) ∧ H' q = some (.lst xs)) ps ((List.range i).map g)) ⟨hD, Ex.new hD, Nat.zero_le _, [], upd_same, rfl, .nil⟩ (fun i H' hi p => ?_) (fun H' p => ?_)
  · obtain ⟨p1, p2, _, ps, p3, pl, p4⟩ := p
    have z0 : (0 : Int) + (i : Int) = (i : Int) := Int.zero_add _
    show wipe ((wipe σ vs).set j (some (.int ((0 : Int) + (i : Int))))) vs = wipe σ vs ∧ te ((wipe σ vs).set j (some (.int ((0 : Int) + (i : Int))))) H' _
    rw [z0]
    refine ⟨hw _, he i H1 (e.trans e1) hi H' p2 _ fun p H4 hp e4 h4 => ?_⟩
    have ne : p ≠ Dl := (ne_of_none p3 hp).symm
    refine ⟨_, e4 _ _ p3, sz_lt (by rw [List.length_map]; omega), p1, Ex.mut (p2.trans e4) p1, hi, ps ++ [p], ?_, ?_, ?_⟩
    · rw [upd_same, List.map_append]; rfl
    · rw [List.length_append, pl]; rfl
    · rw [List.range_succ, List.map_append]
      refine paired_snoc (Paired.mapP p4 fun q xs z => ⟨z.1, ?_⟩) ⟨⟨fresh_back p2 hp, ne⟩, ?_⟩
      · rw [upd_ne z.1.2]; exact e4 _ _ z.2
      · rw [upd_ne ne]; exact h4
  · obtain ⟨p1, p2, _, ps, p3, _, p4⟩ := p
    exact q _ H' (e1.trans p2) ⟨Dl, ps, rfl, fresh_back e1 p1, p3, Paired.mapP p4 fun q xs z => ⟨fresh_back e1 z.1.1, z.2⟩⟩⟩
theorem s_retP {R : Hp → V → Hp → Prop} {D : Ends} (h : EvP te σ H R) (k : ∀ v H1, Ex H H1 → R H v H1 → D.rt v H1) : tRet te D σ H := h H (Ex.refl H) _ k
end
/-! ### beside -/
def sp_beside (K : PySem.W.Frag) : Sp := fun vs H Q _ => ∃ g h w x, vs = [.ref g, .int x] ∧ SqT K H g [.int ((h : Nat) : Int), .int ((w : Nat) : Int)] ∧ GOk h w ∧ RetL ((beside h w x).map V.int) H Q
theorem el_beside {K : PySem.W.Frag} {σ : L2.St} {H : Hp} {ta : TA} {E : XK} {g : Addr} {h w : Nat} {x : Int} (ha : EvA ta σ H [.ref g, .int x]) (hs : SqT K H g [.int (h : Int), .int (w : Int)]) (gk : GOk h w) : EvL (tCall (sp_beside K) [] E ta) σ H ((beside h w x).map V.int) := fun H1 e Q q =>
  ha H1 e _ fun H2 e2 => ⟨g, h, w, x, rfl, ex_t (e.trans e2) hs, gk, fun p H3 hp e3 h3 => q p H3 (fresh_back e2 hp) (e2.trans e3) h3⟩
def t_beside (K : PySem.W.Frag) : TS := (tSeq (tAsg (tVar 0) (gTup K 2 (gCons (gName 2) (gCons (gName 3) gNil))))
      (tSeq (tAsg (tLst tNil) (gName 4))
      (tSeq (tIfS (tTest (tOp oGe (tVar 1) (tVar 3))) (tDrop (tBM K "list" rAppend (tVar 4) (tCons (tOp oSub (tVar 1) (tVar 3)) tNil))) tNext)
      (tSeq (tIfS (tTest (tOp oGt (tOp oMod (tVar 1) (tVar 3)) (tC (.int 0)))) (tDrop (tBM K "list" rAppend (tVar 4) (tCons (tOp oSub (tVar 1) (tC (.int 1))) tNil))) tNext)
      (tSeq (tIfS (tTest (tOp oLt (tOp oMod (tVar 1) (tVar 3)) (tOp oSub (tVar 3) (tC (.int 1))))) (tDrop (tBM K "list" rAppend (tVar 4) (tCons (tOp oAdd (tVar 1) (tC (.int 1))) tNil))) tNext)
      (tSeq (tIfS (tTest (tOp oLt (tVar 1) (tOp oMul (tVar 3) (tOp oSub (tVar 2) (tC (.int 1)))))) (tDrop (tBM K "list" rAppend (tVar 4) (tCons (tOp oAdd (tVar 1) (tVar 3)) tNil))) tNext)
      (tRet (tVar 4))))))))
theorem pure_beside {K : PySem.W.Frag} {vs : List V} {H : Hp} {Q : VK} {E : XK} {D : Ends} (hD : D.rt = Q) (h : sp_beside K vs H Q E) : t_beside K D (start ["grid", "cell", "high", "wide", "found"] vs) H := by
  obtain ⟨g, h, w, x, rfl, hs, gk, q⟩ := h
  subst hD
  obtain ⟨g1, g2, g3, g4⟩ := gk
  change t_beside K D [some (.ref g), some (.int x), none, none, none] H
  refine q_unp (i := 2) (j := 3) (est_of (ev_var rfl) hs) fun H1 e1 => ?_
  refine q_asgL (i := 4) (el_lst ea_nil (by simp)) fun p H2 hp e2 h2 => ?_
  refine q_ifApp (v := .int (x - w)) (by walk_at "et") h2 (ev_var rfl) (fun _ => by walk_at "ev") (by simp) fun H3 k3 h3 => ?_
  refine q_ifApp (v := .int (x - 1)) (by walk_at "et") h3 (ev_var rfl) (fun _ => by walk_at "ev") (by simp only [List.length_append]; split <;> simp) fun H4 k4 h4 => ?_
  refine q_ifApp (v := .int (x + 1)) (by walk_at "et") h4 (ev_var rfl) (fun _ => by walk_at "ev") (by simp only [List.length_append]; split <;> split <;> simp) fun H5 k5 h5 => ?_
  refine q_ifApp (v := .int (x + w)) (by walk_at "et") h5 (ev_var rfl) (fun _ => by walk_at "ev") (by simp only [List.length_append]; split <;> split <;> split <;> simp) fun H6 k6 h6 => ?_
  refine s_ret (ev_var rfl) fun H7 e7 => q p H7 (fresh_back e1 hp) (fun c o ho => ?_) ?_
  · have ne : c ≠ p := ne_of_none (e1 _ _ ho) hp
    exact e7 _ _ (k6 c o ne (k5 c o ne (k4 c o ne (k3 c o ne (e2 _ _ (e1 _ _ ho))))))
  · rw [e7 _ _ h6]
    congr 2
    unfold beside besideA besideB besideC besideD
    simp only [List.map_append, decide_eq_true_eq, List.nil_append]
    congr 1
    · congr 1
      · congr 1
        · split <;> rfl
        · split <;> rfl
      · split <;> rfl
    · split <;> rfl
/-! ### sides_of -/
def sp_sides_of (K : PySem.W.Frag) : Sp := fun vs H Q _ => ∃ g c h w x cs, vs = [.ref g, .ref c, .int x] ∧ SqT K H g [.int ((h : Nat) : Int), .int ((w : Nat) : Int)] ∧ GOk h w ∧ SqL K H c ((cs : List Int).map V.int) ∧ RetV (.int (sidesOf h w cs x)) H Q
theorem ev_sides_of {K : PySem.W.Frag} {σ : L2.St} {H : Hp} {ta : TA} {E : XK} {g c : Addr} {h w : Nat} {x : Int} {cs : List Int} (ha : EvA ta σ H [.ref g, .ref c, .int x]) (hs : SqT K H g [.int (h : Int), .int (w : Int)]) (gk : GOk h w) (hc : SqL K H c (cs.map V.int)) : Ev (tCall (sp_sides_of K) [] E ta) σ H (.int (sidesOf h w cs x)) := fun H1 e Q q =>
  ha H1 e _ fun H2 e2 => ⟨g, c, h, w, x, cs, rfl, ex_t (e.trans e2) hs, gk, ex_l (e.trans e2) hc, fun H3 e3 => q H3 (e2.trans e3)⟩
def t_sides_of (K : PySem.W.Frag) : TS := (tSeq (tAsg (tCB (rLenS K) (tCons (tLc (iList K (tCall (sp_beside K) [] E0 (tCons (tVar 0) (tCons (tVar 2) tNil)))) (gName 4) (tTest (tOp (rIn K false) (tVar 4) (tVar 1))) (tVar 4) [4]) tNil)) (gName 3))
      (tRet (tIf (tTest (tOp (rIn K false) (tVar 2) (tVar 1))) (tOp oSub (tC (.int 4)) (tVar 3)) (tVar 3))))
theorem pure_sides_of {K : PySem.W.Frag} {vs : List V} {H : Hp} {Q : VK} {E : XK} {D : Ends} (hD : D.rt = Q) (h : sp_sides_of K vs H Q E) : t_sides_of K D (start ["grid", "cells", "cell", "near", "one"] vs) H := by
  obtain ⟨g, c, h, w, x, cs, rfl, hs, gk, hc, q⟩ := h
  subst hD
  change t_sides_of K D [some (.ref g), some (.ref c), some (.int x), none, none] H
  have b := el_beside (E := E0) (K := K) (σ := [some (.ref g), some (.ref c), some (.int x), none, none]) (ta := tCons (tVar 0) (tCons (tVar 2) tNil)) (ea_cons (ev_var rfl) (ea_cons (ev_var rfl) ea_nil)) hs gk
  have l := el_lcI (K := K) (t := tTest (tOp (rIn K false) (tVar 4) (tVar 1))) (te := tVar 4) (j := 4) (vs := [4]) (fun o => decide (o ∈ cs)) V.int (es_new b) (by have := beside_len h w x; omega) (fun x => rfl)
    (fun n H1 e1 hn => et_test (ev_isIn (ev_var rfl) (es_of (ev_var rfl) (ex_l e1 hc)))) (fun n H1 e1 hn _ => ev_var rfl)
  refine q_asg (ev_lenN l) fun H1 e1 => ?_
  rw [List.length_map]
  have hc1 := ex_l e1 hc
  refine s_ret (v := .int (sidesOf h w cs x)) (ev_if (b := decide (x ∈ cs)) (by walk_at "et") (fun hb => ?_) (fun hb => ?_)) fun H2 e2 => q H2 (e1.trans e2)
  · have : sidesOf h w cs x = 4 - (near h w cs x : Int) := if_pos (of_decide_eq_true hb)
    rw [this]
    exact ev_op ev_c (ev_var rfl) rv_I0
  · have : sidesOf h w cs x = (near h w cs x : Int) := if_neg (of_decide_eq_false hb)
    rw [this]
    exact ev_var rfl
/-! ### numbers_of -/
def sp_numbers_of (K : PySem.W.Frag) : Sp := fun vs H Q _ => ∃ g c h w cs, vs = [.ref g, .ref c] ∧ SqT K H g [.int ((h : Nat) : Int), .int ((w : Nat) : Int)] ∧ GOk h w ∧ SqL K H c ((cs : List Int).map V.int) ∧ RetP (fun H1 v H2 => NewLL H1 v H2 (ints2 (numbersOf h w cs))) H Q
theorem ep_numbers_of {K : PySem.W.Frag} {σ : L2.St} {H : Hp} {ta : TA} {E : XK} {g c : Addr} {h w : Nat} {cs : List Int} (ha : EvA ta σ H [.ref g, .ref c]) (hs : SqT K H g [.int (h : Int), .int (w : Int)]) (gk : GOk h w) (hc : SqL K H c (cs.map V.int)) :
    EvP (tCall (sp_numbers_of K) [] E ta) σ H (fun H1 v H2 => NewLL H1 v H2 (ints2 (numbersOf h w cs))) := fun H1 e Q q =>
  ha H1 e _ fun H2 e2 => ⟨g, c, h, w, cs, rfl, ex_t (e.trans e2) hs, gk, ex_l (e.trans e2) hc, fun v H3 e3 z => q v H3 (e2.trans e3) (z.back e2)⟩
def t_numbers_of (K : PySem.W.Frag) : TS := (tSeq (tAsg (tVar 0) (gTup K 2 (gCons (gName 2) (gCons (gName 3) gNil))))
      (tRet (tLc (iRng1 (tCons (tVar 2) tNil)) (gName 4) tYes (tLc (iRng1 (tCons (tVar 3) tNil)) (gName 5) tYes (tCall (sp_sides_of K) [] E0 (tCons (tVar 0) (tCons (tVar 1) (tCons (tOp oAdd (tOp oMul (tVar 4) (tVar 3)) (tVar 5)) tNil)))) [5]) [4])))
theorem pure_numbers_of {K : PySem.W.Frag} {vs : List V} {H : Hp} {Q : VK} {E : XK} {D : Ends} (hD : D.rt = Q) (h : sp_numbers_of K vs H Q E) : t_numbers_of K D (start ["grid", "cells", "high", "wide", "row", "at"] vs) H := by
  obtain ⟨g, c, h, w, cs, rfl, hs, gk, hc, q⟩ := h
  subst hD
  change t_numbers_of K D [some (.ref g), some (.ref c), none, none, none, none] H
  have gb := gk
  obtain ⟨g1, g2, g3, g4⟩ := gb
  refine q_unp (i := 2) (j := 3) (est_of (ev_var rfl) hs) fun H1 e1 => ?_
  have k := ep_lcRL (σ := [some (.ref g), some (.ref c), some (.int (h : Int)), some (.int (w : Int)), none, none]) (H := H1) (j := 4) (vs := [4]) (n := h) (ta := tCons (tVar 2) tNil)
    (te := tLc (iRng1 (tCons (tVar 3) tNil)) (gName 5) tYes (tCall (sp_sides_of K) [] E0 (tCons (tVar 0) (tCons (tVar 1) (tCons (tOp oAdd (tOp oMul (tVar 4) (tVar 3)) (tVar 5)) tNil)))) [5])
    (fun i => ((List.range w).map fun (a : Nat) => sidesOf h w cs ((i : Int) * w + (a : Int))).map V.int) (ea_cons (ev_var rfl) ea_nil) (by omega) (fun x => rfl) (fun i H2 e2 hi => by
      have l := el_lcR (σ := [some (.ref g), some (.ref c), some (.int (h : Int)), some (.int (w : Int)), some (.int (i : Int)), none]) (H := H2) (t := tYes) (te := tCall (sp_sides_of K) [] E0 (tCons (tVar 0) (tCons (tVar 1) (tCons (tOp oAdd (tOp oMul (tVar 4) (tVar 3)) (tVar 5)) tNil)))) (j := 5) (vs := [5]) (n := w) (ta := tCons (tVar 3) tNil)
        (fun _ => true) (fun a => V.int (sidesOf h w cs ((i : Int) * w + (a : Int)))) (ea_cons (ev_var rfl) ea_nil) (by omega) (fun x => rfl) (fun _ _ _ _ => et_yes) (fun a H3 e3 ha _ =>
          ev_sides_of (ea_cons (ev_var rfl) (ea_cons (ev_var rfl) (ea_cons (by walk_at "ev") ea_nil))) (ex_t ((e1.trans e2).trans e3) hs) gk (ex_l ((e1.trans e2).trans e3) hc))
      rw [filter_yes] at l
      rw [List.map_map]
      exact l)
  refine s_retP k fun v H2 e2 z => q v H2 (e1.trans e2) (z.back e1 |> fun z => ?_)
  unfold ints2 numbersOf
  rw [List.map_map]
  exact z
/-! ### numbers -/
def sp_numbers (K : PySem.W.Frag) (C : Ad) : Sp := fun vs H Q E => ∃ v u, vs = [v, u] ∧
  ((BadG K H v ∧ RetE C.cBadGrid H E) ∨
   (∃ g h w, v = .ref g ∧ SqT K H g [.int ((h : Nat) : Int), .int ((w : Nat) : Int)] ∧ GOk h w ∧ ((BadC K H ((h : Int) * w) u ∧ RetE C.cBadCells H E) ∨
     ∃ c cs, u = .ref c ∧ SqL K H c (cs.map V.int) ∧ COk h w cs ∧ RetP (fun H1 v H2 => NewLL H1 v H2 (ints2 (numbersOf h w cs))) H Q)))
theorem ep_numbers {K : PySem.W.Frag} {C : Ad} {σ : L2.St} {H : Hp} {ta : TA} {E : XK} {g c : Addr} {h w : Nat} {cs : List Int} (ha : EvA ta σ H [.ref g, .ref c]) (hs : SqT K H g [.int (h : Int), .int (w : Int)]) (gk : GOk h w) (hc : SqL K H c (cs.map V.int)) (ck : COk h w cs) :
    EvP (tCall (sp_numbers K C) [] E ta) σ H (fun H1 v H2 => NewLL H1 v H2 (ints2 (numbersOf h w cs))) := fun H1 e Q q =>
  ha H1 e _ fun H2 e2 => ⟨_, _, rfl, .inr ⟨g, h, w, rfl, ex_t (e.trans e2) hs, gk, .inr ⟨c, cs, rfl, ex_l (e.trans e2) hc, ck, fun v H3 e3 z => q v H3 (e2.trans e3) (z.back e2)⟩⟩⟩
def t_numbers (K : PySem.W.Frag) (C : Ad) (E : XK) : TS := (tSeq (tDrop (tCall (sp_check_grid K C) [] E (tCons (tVar 0) tNil)))
      (tSeq (tDrop (tCall (sp_check_cells K C) [] E (tCons (tVar 0) (tCons (tVar 1) tNil))))
      (tRet (tCall (sp_numbers_of K) [] E0 (tCons (tVar 0) (tCons (tVar 1) tNil))))))
theorem pure_numbers {K : PySem.W.Frag} {C : Ad} {vs : List V} {H : Hp} {Q : VK} {E : XK} {D : Ends} (hD : D.rt = Q) (h : sp_numbers K C vs H Q E) : t_numbers K C E D (start ["grid", "cells"] vs) H := by
  obtain ⟨v, u, rfl, h⟩ := h
  subst hD
  change t_numbers K C E D [some v, some u] H
  rcases h with ⟨hb, q⟩ | ⟨g, h, w, rfl, hs, gk, h⟩
  · exact ⟨v, rfl, v, rfl, .inr ⟨hb, q⟩⟩
  · refine q_drop (ev_check_grid (ea_cons (ev_var rfl) ea_nil) hs gk) fun H1 e1 => ?_
    rcases h with ⟨hb, q⟩ | ⟨c, cs, rfl, hc, ck, q⟩
    · refine ⟨_, rfl, u, rfl, g, h, w, u, rfl, ex_t e1 hs, gk, .inr ⟨?_, fun H2 e2 => q H2 (e1.trans e2)⟩⟩
      rcases hb with ⟨n, hk, hn⟩ | ⟨a, xs, ds, rfl, h1, h2, h3⟩
      · exact .inl ⟨n, hk.mono e1, hn⟩
      · exact .inr ⟨a, xs, ds, rfl, ex_l e1 h1, DpAll.mono e1 h2, h3⟩
    · refine q_drop (ev_check_cells (ea_cons (ev_var rfl) (ea_cons (ev_var rfl) ea_nil)) (ex_t e1 hs) gk (ex_l e1 hc) ck) fun H2 e2 => ?_
      refine s_retP (ep_numbers_of (ea_cons (ev_var rfl) (ea_cons (ev_var rfl) ea_nil)) (ex_t (e1.trans e2) hs) gk (ex_l (e1.trans e2) hc)) fun v H3 e3 z => q v H3 ((e1.trans e2).trans e3) (z.back (e1.trans e2))

/-! ### sizes -/
theorem bits_lt {z : Int} {k : Nat} (h : Builtin.Int.intBits z ≤ k) : z.natAbs < 2 ^ k := by
  unfold Builtin.Int.intBits at h
  split at h
  · rename_i e
    have : z = 0 := by simpa using e
    subst this
    exact Nat.two_pow_pos k
  · rename_i e
    have ne : z.natAbs ≠ 0 := fun w => e (by have : z = 0 := by omega
                                             simp [this])
    exact (Nat.log2_lt ne).mp (by omega)
theorem abs_sum {k : Nat} : ∀ ns : List Int, (∀ z ∈ ns, z.natAbs < 2 ^ k) → ns.sum.natAbs ≤ ns.length * 2 ^ k
  | [], _ => by simp
  | n :: r, h => by
    have h1 := h n List.mem_cons_self
    have ih := abs_sum r fun z hz => h z (List.mem_cons_of_mem _ hz)
    rw [List.sum_cons, List.length_cons, Nat.succ_mul]
    have := Int.natAbs_add_le n r.sum
    omega
/-- within so many bits -/
def Bits (z : Int) : Prop := ∃ k, k ≤ 3000000 ∧ z.natAbs < 2 ^ k
theorem Bits.small {z : Int} (h : z.natAbs < 1000000) : Bits z := ⟨20, by decide, Nat.lt_trans h (by decide)⟩
theorem pow_mono {a b : Nat} (h : a ≤ b) : 2 ^ a ≤ 2 ^ b := Nat.pow_le_pow_right (by decide) h
theorem sum_bits {ns : List Int} {b : Int} (hl : ns.length ≤ 63) (h : ∀ z ∈ ns, Builtin.Int.intBits z ≤ 1048576) (hb : b.natAbs ≤ 1000) : Bits (ns.sum + b) := by
  have h1 := abs_sum (k := 1048576) ns fun z hz => bits_lt (h z hz)
  refine ⟨1048576 + 7, by decide, ?_⟩
  rw [Nat.pow_add]
  have h2 : ns.length * 2 ^ 1048576 ≤ 63 * 2 ^ 1048576 := Nat.mul_le_mul_right _ hl
  have h3 : 2 ^ 10 ≤ 2 ^ 1048576 := pow_mono (by decide)
  have h4 := Int.natAbs_add_le ns.sum b
  generalize 2 ^ 1048576 = X at *
  have : (2 : Nat) ^ 7 = 128 := by decide
  omega
/-! ### _law_number -/
def sp_l_number (K : PySem.W.Frag) : Sp := fun vs H Q _ => ∃ c a s, vs = [.int c, .int a, .int s] ∧ Bits c ∧ 0 ≤ a ∧ a ≤ 1000 ∧ Bits s ∧ RetV (.int (lNumber c a s)) H Q
theorem ev_l_number {K : PySem.W.Frag} {σ : L2.St} {H : Hp} {ta : TA} {E : XK} {c a s : Int} (ha : EvA ta σ H [.int c, .int a, .int s]) (hc : Bits c) (h0 : 0 ≤ a) (h1 : a ≤ 1000) (hs : Bits s) : Ev (tCall (sp_l_number K) [] E ta) σ H (.int (lNumber c a s)) := fun H1 e Q q =>
  ha H1 e _ fun H2 e2 => ⟨c, a, s, rfl, hc, h0, h1, hs, fun H3 e3 => q H3 (e2.trans e3)⟩
def t_l_number (K : PySem.W.Frag) : TS := (tSeq (tIfS (tTest (tOp oGe (tVar 0) (tOp oPow (tC (.int 10)) (tC (.int 18))))) (tRet (tVar 0)) tNext)
      (tSeq (tAsg (tOp oMod (tOp oAdd (tOp oMul (tOp oAdd (tVar 0) (tOp oMul (tC (.int 977)) (tVar 1))) (tC (.int 48271))) (tVar 2)) (tC (.int 2147483647))) (gName 3))
      (tSeq (tAsg (tOp oMulX (tOp oMul (tVar 3) (tOp oAdd (tOp oAdd (tVar 3) (tOp oMul (tC (.int 31)) (tVar 1))) (tC (.int 7)))) (tOp oAdd (tOp oAdd (tVar 3) (tVar 0)) (tC (.int 5)))) (gName 4))
      (tRet (tOp oDiv (tOp oMulX (tVar 4) (tOp oAdd (tVar 4) (tC (.int 48271)))) (tC (.int 1009)))))))
theorem mulx_of {i j : Int} {a b : Nat} (ha : i.natAbs < 2 ^ a) (hb : j.natAbs < 2 ^ b) (h : a + b ≤ 134217728) : CMulX i j := mulx_ok ha hb h
theorem pure_l_number {K : PySem.W.Frag} {vs : List V} {H : Hp} {Q : VK} {E : XK} {D : Ends} (hD : D.rt = Q) {N : List Str} (hN : N.length = 5) (h : sp_l_number K vs H Q E) : t_l_number K D (start N vs) H := by
  obtain ⟨c, a, s, rfl, hc, h0, h1, hs, q⟩ := h
  subst hD
  rw [start_eq hN]
  change t_l_number K _ [some (.int c), some (.int a), some (.int s), none, none] _
  refine q_when (b := decide ((10 : Int) ^ (18 : Int).toNat ≤ c)) (by walk_at "et") (fun hb H1 e1 => ?_) (fun hb H1 e1 => ?_)
  · have e : lNumber c a s = c := if_pos (of_decide_eq_true hb)
    rw [e] at q
    exact s_ret (ev_var rfl) fun H2 e2 => q H2 (e1.trans e2)
  · have hb' := of_decide_eq_false hb
    refine q_asg (v := .int (((c + 977 * a) * 48271 + s) % 2147483647)) (by walk_at "ev") fun H2 e2 => ?_
    have e : lNumber c a s = (let m := ((c + 977 * a) * 48271 + s) % 2147483647
      let n := m * (m + 31 * a + 7) * (m + c + 5)
      n * (n + 48271) / 1009) := if_neg hb'
    rw [e] at q
    clear e
    have m0 : 0 ≤ ((c + 977 * a) * 48271 + s) % 2147483647 := Int.emod_nonneg _ (by decide)
    have m1 : ((c + 977 * a) * 48271 + s) % 2147483647 < 2147483647 := Int.emod_lt_of_pos _ (by decide)
    generalize ((c + 977 * a) * 48271 + s) % 2147483647 = m at *
    obtain ⟨k, hk, hc⟩ := hc
    have b1 : (m * (m + 31 * a + 7)).natAbs < 2 ^ 64 := by
      rw [Int.natAbs_mul]
      have x1 : m.natAbs < 2 ^ 31 := by omega
      have x2 : (m + 31 * a + 7).natAbs < 2 ^ 32 := by omega
      have := Nat.mul_lt_mul'' x1 x2
      exact Nat.lt_trans this (by decide)
    have b2 : (m + c + 5).natAbs < 2 ^ (k + 33) := by
      rw [Nat.pow_add]
      have : (m + c + 5).natAbs ≤ m.natAbs + c.natAbs + 5 := by omega
      have x1 : m.natAbs < 2 ^ 31 := by omega
      generalize 2 ^ k = X at *
      have : (2 : Nat) ^ 33 = 8589934592 := by decide
      have : (2 : Nat) ^ 31 = 2147483648 := by decide
      omega
    have b3 : (m * (m + 31 * a + 7) * (m + c + 5)).natAbs < 2 ^ (64 + (k + 33)) := by
      rw [Int.natAbs_mul, Nat.pow_add 2 64 (k + 33)]
      exact Nat.mul_lt_mul'' b1 b2
    have b4 : (m * (m + 31 * a + 7) * (m + c + 5) + 48271).natAbs < 2 ^ (64 + (k + 33) + 1) := by
      rw [Nat.pow_add 2 (64 + (k + 33)) 1]
      have x3 : 2 ^ 64 ≤ 2 ^ (64 + (k + 33)) := pow_mono (by omega)
      generalize m * (m + 31 * a + 7) * (m + c + 5) = n at *
      generalize 2 ^ (64 + (k + 33)) = X at *
      have : (2 : Nat) ^ 64 = 18446744073709551616 := by decide
      omega
    refine q_asg (v := .int (m * (m + 31 * a + 7) * (m + c + 5))) (ev_op (x := .int (m * (m + 31 * a + 7))) (y := .int (m + c + 5)) (by walk_at "ev") (by walk_at "ev") (rv_I (mulx_of b1 b2 (by omega)))) fun H3 e3 => ?_
    dsimp only at q
    generalize m * (m + 31 * a + 7) * (m + c + 5) = n at *
    exact s_ret (v := .int (n * (n + 48271) / 1009)) (ev_op (x := .int (n * (n + 48271))) (y := .int 1009) (ev_op (x := .int n) (y := .int (n + 48271)) (ev_var rfl) (by walk_at "ev") (rv_I (mulx_of b3 b4 (by omega)))) ev_c (rv_I ⟨by decide, by decide⟩)) fun H4 e4 => q H4 (((e1.trans e2).trans e3).trans e4)
/-! ### _law_whole -/
def sp_l_whole (K : PySem.W.Frag) : Sp := sp_is_whole K
def t_l_whole (K : PySem.W.Frag) : TS := (tRet (tAndV (tCB (rIsi K) (tCons (tVar 0) (tCons (tC (.ty "int")) tNil))) (tNotV (tCB (rIsi K) (tCons (tVar 0) (tCons (tC (.ty "bool")) tNil))))))
theorem pure_l_whole {K : PySem.W.Frag} {vs : List V} {H : Hp} {Q : VK} {E : XK} {D : Ends} (hD : D.rt = Q) {N : List Str} (hN : N.length = 1) (h : sp_l_whole K vs H Q E) : t_l_whole K D (start N vs) H := by
  have w := pure_is_whole (K := K) hD h
  obtain ⟨v, n, rfl, hk, q⟩ := h
  rw [start_eq hN]
  change t_l_whole K _ [some v] _
  exact w
/-! ### _law_grid -/
theorem lGridGo_ok {most : Nat} (hm : 1 ≤ most) : ∀ (k h w : Nat), 1 ≤ h → h ≤ 6 → 1 ≤ w → w ≤ 6 → h + w ≤ k + 2 → GOk (lGridGo most k h w).1 (lGridGo most k h w).2 ∧ (lGridGo most k h w).1 * (lGridGo most k h w).2 ≤ most
  | 0, h, w, h1, h2, h3, h4, hk => by
    have : h = 1 := by omega
    have : w = 1 := by omega
    subst h w
    exact ⟨(⟨by decide, by decide, by decide, by decide⟩ : GOk 1 1), hm⟩
  | k + 1, h, w, h1, h2, h3, h4, hk => by
    unfold lGridGo
    split
    · rename_i hc
      split
      · exact lGridGo_ok hm k (h - 1) w (by omega) (by omega) h3 h4 (by omega)
      · rename_i hn
        have : 2 ≤ w := by
          refine Nat.lt_of_not_le fun z => ?_
          have : w = 1 := by omega
          have : h = 1 := by omega
          subst h w
          omega
        exact lGridGo_ok hm k h (w - 1) h1 h2 (by omega) (by omega) (by omega)
    · rename_i hc
      exact ⟨⟨h1, h2, h3, h4⟩, Nat.le_of_not_lt hc⟩
theorem lGrid_ok (n : Int) {most : Nat} (hm : 1 ≤ most) : GOk (lGrid n most).1 (lGrid n most).2 ∧ (lGrid n most).1 * (lGrid n most).2 ≤ most := lGridGo_ok hm 12 _ _ (by omega) (by omega) (by omega) (by omega) (by omega)
def sp_l_grid (K : PySem.W.Frag) : Sp := fun vs H Q _ => ∃ n most, vs = [.int n, .int ((most : Nat) : Int)] ∧ 1 ≤ most ∧ most ≤ 1000 ∧ ∀ p H2, H p = none → Ex H H2 → H2 p = some (.tup [.int (((lGrid n most).1 : Nat) : Int), .int (((lGrid n most).2 : Nat) : Int)]) → Q (.ref p) H2
theorem eu_l_grid {K : PySem.W.Frag} {σ : L2.St} {H : Hp} {ta : TA} {E : XK} {n : Int} {most : Nat} (ha : EvA ta σ H [.int n, .int (most : Int)]) (h1 : 1 ≤ most) (h2 : most ≤ 1000) : EvU (tCall (sp_l_grid K) [] E ta) σ H [.int (((lGrid n most).1 : Nat) : Int), .int (((lGrid n most).2 : Nat) : Int)] := fun H1 e Q q =>
  ha H1 e _ fun H2 e2 => ⟨n, most, rfl, h1, h2, fun p H3 hp e3 h3 => q p H3 (fresh_back e2 hp) (e2.trans e3) h3⟩
def t_l_grid (K : PySem.W.Frag) : TS := (tSeq (tPar 2 3 (tCons (tOp oAdd (tC (.int 1)) (tOp oMod (tVar 0) (tC (.int 6)))) (tCons (tOp oAdd (tC (.int 1)) (tOp oMod (tOp oDiv (tVar 0) (tC (.int 6))) (tC (.int 6)))) tNil)))
      (tSeq (tWhile (tTest (tOp oGt (tOp oMul (tVar 2) (tVar 3)) (tVar 1))) (tAsg (tIf (tTest (tOp oGt (tVar 2) (tVar 3))) (tTup (tCons (tOp oSub (tVar 2) (tC (.int 1))) (tCons (tVar 3) tNil))) (tTup (tCons (tVar 2) (tCons (tOp oSub (tVar 3) (tC (.int 1))) tNil)))) (gTup K 2 (gCons (gName 2) (gCons (gName 3) gNil)))))
      (tRet (tTup (tCons (tVar 2) (tCons (tVar 3) tNil))))))
theorem pure_l_grid {K : PySem.W.Frag} {vs : List V} {H : Hp} {Q : VK} {E : XK} {D : Ends} (hD : D.rt = Q) {N : List Str} (hN : N.length = 4) (h : sp_l_grid K vs H Q E) : t_l_grid K D (start N vs) H := by
  obtain ⟨n, most, rfl, hm, hm2, q⟩ := h
  subst hD
  rw [start_eq hN]
  change t_l_grid K _ [some (.int n), some (.int ((most : Nat) : Int)), none, none] _
  refine q_par (i := 2) (j := 3) (x := .int (1 + n % 6)) (y := .int (1 + n / 6 % 6)) (by walk_at "ev") (by walk_at "ev") fun H1 e1 => ?_
  have hh : (1 + n % 6) = (((1 + n % 6).toNat : Nat) : Int) := by omega
  have hw : (1 + n / 6 % 6) = (((1 + n / 6 % 6).toNat : Nat) : Int) := by omega
  rw [hh, hw]
  refine q_while (fun m σ' H' => ∃ h w : Nat, σ' = [some (.int n), some (.int (most : Int)), some (.int (h : Int)), some (.int (w : Int))] ∧ Ex H H' ∧ 1 ≤ h ∧ h ≤ 6 ∧ 1 ≤ w ∧ w ≤ 6 ∧ h + w ≤ m + 2 ∧ lGridGo most m h w = lGrid n most) 12 ⟨_, _, rfl, e1, by omega, by omega, by omega, by omega, by omega, rfl⟩ fun m σ' H' hW => ?_
  obtain ⟨h, w, rfl, e2, h1, h2, h3, h4, hk, hg⟩ := hW
  have cast : ((h : Int) * (w : Int)) = ((h * w : Nat) : Int) := by rw [Int.natCast_mul]
  refine ⟨decide ((most : Int) < (h : Int) * w), by walk_at "et", fun hb H3 e3 => ?_, fun hb H3 e3 => ?_⟩
  · have hb' := of_decide_eq_true hb
    have hlt : most < h * w := by rw [cast] at hb'; omega
    cases m with
    | zero =>
      exfalso
      have : h = 1 := by omega
      have : w = 1 := by omega
      subst h w
      omega
    | succ m =>
      unfold lGridGo at hg
      rw [if_pos hlt] at hg
      refine ⟨fun σ2 H2 => ∃ h w : Nat, σ2 = [some (.int n), some (.int (most : Int)), some (.int (h : Int)), some (.int (w : Int))] ∧ Ex H H2 ∧ 1 ≤ h ∧ h ≤ 6 ∧ 1 ≤ w ∧ w ≤ 6 ∧ h + w ≤ m + 2 ∧ lGridGo most m h w = lGrid n most, fun σ2 H2 z => ⟨m, by omega, z⟩, ?_⟩
      by_cases hc : w < h
      · rw [if_pos hc] at hg
        have e : ((h : Int) - 1) = ((h - 1 : Nat) : Int) := by omega
        refine s_unp (i := 2) (j := 3) (x := .int ((h : Int) - 1)) (y := .int (w : Int)) (est_new (eu_if (b := true) (et_is (b := true) (et_test (ev_op (x := .int (h : Int)) (y := .int (w : Int)) (ev_var rfl) (ev_var rfl) rv_I0)) (decide_eq_true (by omega))) (fun _ => eu_tup (by walk_at "ea") (by simp)) (fun z => nomatch z))) fun H4 e4 => ?_
        rw [e]
        exact ⟨h - 1, w, rfl, (e2.trans e3).trans e4, by omega, by omega, h3, h4, by omega, hg⟩
      · rw [if_neg hc] at hg
        have e : ((w : Int) - 1) = ((w - 1 : Nat) : Int) := by omega
        have w2 : 2 ≤ w := by
          refine Nat.lt_of_not_le fun z => ?_
          have : w = 1 := by omega
          have : h = 1 := by omega
          subst h w
          omega
        refine s_unp (i := 2) (j := 3) (x := .int (h : Int)) (y := .int ((w : Int) - 1)) (est_new (eu_if (b := false) (et_is (b := false) (et_test (ev_op (x := .int (h : Int)) (y := .int (w : Int)) (ev_var rfl) (ev_var rfl) rv_I0)) (decide_eq_false (by omega))) (fun z => nomatch z) (fun _ => eu_tup (by walk_at "ea") (by simp)))) fun H4 e4 => ?_
        rw [e]
        exact ⟨h, w - 1, rfl, (e2.trans e3).trans e4, h1, h2, by omega, by omega, by omega, hg⟩
  · have hb' := of_decide_eq_false hb
    have hlt : ¬ most < h * w := by rw [cast] at hb'; omega
    have e : lGrid n most = (h, w) := by
      rw [← hg]
      cases m with
      | zero => rfl
      | succ m => unfold lGridGo; rw [if_neg hlt]
    refine s_retU (xs := [.int (h : Int), .int (w : Int)]) (eu_tup (by walk_at "ea") (by simp)) fun p H4 hp e4 h4 => q p H4 (fresh_back (e2.trans e3) hp) ((e2.trans e3).trans e4) ?_
    rw [e]
    exact h4

/-! ### _law_cells -/
def ScriptOk (ns : List Int) : Prop := ns.length ≤ 63 ∧ ∀ z ∈ ns, Builtin.Int.intBits z ≤ 1048576
theorem drawn_ok {ns : List Int} (h : ScriptOk ns) : ScriptOk (lDrawn ns) ∧ 1 ≤ (lDrawn ns).length := by
  unfold lDrawn
  split
  · refine ⟨⟨by decide, fun z hz => ?_⟩, by decide⟩
    have : z = 5 := by simpa using hz
    rw [this]
    decide
  · rename_i hn
    refine ⟨⟨by rw [List.length_take]; omega, fun z hz => h.2 z (List.mem_of_mem_take hz)⟩, ?_⟩
    have : 0 < ns.length := List.length_pos_iff.mpr hn
    rw [List.length_take]
    omega
theorem bits_mem {ns : List Int} (h : ScriptOk ns) {z : Int} (hz : z ∈ ns) : Bits z := ⟨1048576, by decide, bits_lt (h.2 z hz)⟩
theorem cutTo (xs : List V) (n : Nat) : cutV xs none (some (n : Int)) = xs.take n := by
  unfold cutV
  rw [HT.sIx_none, HT.sIx_nat, List.drop_zero, Nat.sub_zero]
  rcases Nat.le_total n xs.length with h | h
  · rw [Nat.min_eq_left h]
  · rw [Nat.min_eq_right h, List.take_of_length_le h, List.take_length]
theorem lCells0_mem {ns : List Int} {b : Int} {m : Nat} : ∀ x ∈ lCells0 ns b m, 0 ≤ x ∧ x < (m : Int) := fun x hx => by
  unfold lCells0 at hx
  obtain ⟨a, ha, rfl⟩ := List.mem_map.mp hx
  have := List.mem_range.mp (List.mem_filter.mp ha).1
  omega
theorem rising_range (m : Nat) (f : Nat → Bool) : Rising (((List.range m).filter f).map fun (a : Nat) => (a : Int)) := by
  unfold Rising
  rw [List.pairwise_map]
  exact ((List.pairwise_lt_range).filter f).imp fun h => by omega
theorem lCells0_rising (ns : List Int) (b : Int) (m : Nat) : Rising (lCells0 ns b m) := rising_range m _
theorem orOne_ok {h w : Nat} (gk : GOk h w) {f : List Int} (s : Int) (hm : InGrid h w f) (hr : Rising f) : COk h w (if f = [] then [s % ((h : Int) * w)] else f) := by
  have hb := hw_le gk
  split
  · refine ⟨List.cons_ne_nil _ _, fun x hx => ?_, List.pairwise_singleton _ _⟩
    have : x = s % ((h : Int) * w) := by simpa using hx
    rw [this]
    exact ⟨Int.emod_nonneg _ (by omega), Int.emod_lt_of_pos _ (by omega)⟩
  · rename_i hn
    exact ⟨hn, hm, hr⟩
theorem lCells_ok (ns : List Int) (b : Int) {h w : Nat} (gk : GOk h w) : COk h w (lCells ns b h w) := by
  have e : ((h * w : Nat) : Int) = (h : Int) * w := Int.natCast_mul h w
  have m0 : InGrid h w (lCells0 ns b (h * w)) := fun x hx => by
    have := lCells0_mem x hx
    omega
  have r0 := lCells0_rising ns b (h * w)
  unfold lCells
  dsimp only
  refine orOne_ok gk _ ?_ ?_
  · split
    · exact fun x hx => m0 x (List.mem_filter.mp (List.mem_filter.mp hx).1).1
    · exact m0
  · split
    · exact (r0.filter _).filter _
    · exact r0
def sp_l_cells (K : PySem.W.Frag) : Sp := fun vs H Q _ => ∃ a g b h w ns, vs = [.ref a, .int b, .ref g] ∧ SqL K H a ((ns : List Int).map V.int) ∧ ScriptOk ns ∧ 0 ≤ b ∧ b ≤ 100 ∧ SqT K H g [.int ((h : Nat) : Int), .int ((w : Nat) : Int)] ∧ GOk h w ∧ RetL ((lCells ns b h w).map V.int) H Q
theorem el_l_cells {K : PySem.W.Frag} {σ : L2.St} {H : Hp} {ta : TA} {E : XK} {a g : Addr} {b : Int} {h w : Nat} {ns : List Int} (ha : EvA ta σ H [.ref a, .int b, .ref g]) (hn : SqL K H a (ns.map V.int)) (sk : ScriptOk ns) (b0 : 0 ≤ b) (b1 : b ≤ 100) (hs : SqT K H g [.int (h : Int), .int (w : Int)]) (gk : GOk h w) :
    EvL (tCall (sp_l_cells K) [] E ta) σ H ((lCells ns b h w).map V.int) := fun H1 e Q q =>
  ha H1 e _ fun H2 e2 => ⟨a, g, b, h, w, ns, rfl, ex_l (e.trans e2) hn, sk, b0, b1, ex_t (e.trans e2) hs, gk, fun p H3 hp e3 h3 => q p H3 (fresh_back e2 hp) (e2.trans e3) h3⟩
def t_l_cells (K : PySem.W.Frag) : TS := (tSeq (tAsg (tIf (tTest (tOp (rNeD K) (tVar 0) (tLst tNil))) (tSl (rSlL K) (tVar 0) tNoPart (tPart (tC (.int 63)))) (tLst (tCons (tC (.int 5)) tNil))) (gName 3))
      (tSeq (tAsg (tOp oAdd (tCB (rSum K) (tCons (tVar 3) tNil)) (tVar 1)) (gName 4))
      (tSeq (tPar 5 6 (tCons (tOp oMul (tOp (rIxT K) (tVar 2) (tC (.int 0))) (tOp (rIxT K) (tVar 2) (tC (.int 1)))) (tCons (tLst tNil) tNil)))
      (tSeq (tFor (iRng1 (tCons (tVar 5) tNil)) (gName 7) (tSeq (tAsg (tOp oDiv (tCall (sp_l_number K) [] E0 (tCons (tOp (rIxL K) (tVar 3) (tOp oMod (tOp oAdd (tVar 7) (tVar 1)) (tCB (rLenS K) (tCons (tVar 3) tNil)))) (tCons (tOp oAdd (tVar 7) (tVar 1)) (tCons (tVar 4) tNil)))) (tC (.int 3))) (gName 8))
      (tIfS (tTest (tOp oGt (tOp (rIxT K) (tTup (tCons (tOp oMod (tVar 8) (tC (.int 2))) (tCons (tOp oMod (tVar 8) (tC (.int 3))) (tCons (tC (.int 1)) (tCons (tOp oMod (tVar 8) (tC (.int 5))) tNil))))) (tOp oMod (tVar 4) (tC (.int 4)))) (tC (.int 0)))) (tDrop (tBM K "list" rAppend (tVar 6) (tCons (tVar 7) tNil))) tNext)))
      (tSeq (tIfS (tTest (tOp rEq (tOp oMod (tVar 4) (tC (.int 4))) (tC (.int 2)))) (tSeq (tAsg (tLc (iList K (tVar 6)) (gName 9) (tTest (tOp oGe (tOp oDiv (tVar 9) (tOp (rIxT K) (tVar 2) (tC (.int 1)))) (tOp oMod (tOp oDiv (tVar 4) (tC (.int 4))) (tOp (rIxT K) (tVar 2) (tC (.int 0)))))) (tVar 9) [9]) (gName 6))
      (tAsg (tLc (iList K (tVar 6)) (gName 9) (tTest (tOp oLe (tOp oMod (tVar 9) (tOp (rIxT K) (tVar 2) (tC (.int 1)))) (tOp oMod (tOp oDiv (tVar 4) (tC (.int 8))) (tOp (rIxT K) (tVar 2) (tC (.int 1)))))) (tVar 9) [9]) (gName 6))) tNext)
      (tRet (tIf (tTest (tOp (rNeD K) (tVar 6) (tLst tNil))) (tVar 6) (tLst (tCons (tOp oMod (tVar 4) (tVar 5)) tNil)))))))))
theorem eqv_ints_nil (ns : List Int) : PyData.eqv (dI ns) (.list []) = decide (ns = []) := by
  unfold dI
  rw [eqv_nil]
  cases ns <;> simp
section
variable {K : PySem.W.Frag} {σ : L2.St} {H H' : Hp} {ta tb te : TE} {t : TT} {D : Ends}
theorem s_retIf {b : Bool} (h : EvT t σ H b) (h1 : b = true → ∀ H1, Ex H H1 → tRet ta D σ H1) (h2 : b = false → ∀ H1, Ex H H1 → tRet tb D σ H1) : tRet (tIf t ta tb) D σ H := h H (Ex.refl H) _ fun H1 e => by
  cases b with
  | true =>
    show ta σ H1 D.rt
    exact h1 rfl H1 e
  | false =>
    show tb σ H1 D.rt
    exact h2 rfl H1 e
end
theorem pick_at (n k : Int) (h0 : 0 ≤ k) (h4 : k < 4) : atI [V.int (n % 2), V.int (n % 3), V.int 1, V.int (n % 5)] k = some (V.int (lPick n k)) := by
  have : k = 0 ∨ k = 1 ∨ k = 2 ∨ k = 3 := by omega
  rcases this with rfl | rfl | rfl | rfl <;> rfl
theorem getD_at {ds : List Int} {i : Int} (h0 : 0 ≤ i) (h1 : i < (ds.length : Int)) : atI (ds.map V.int) i = some (.int (ds.getD i.toNat 0)) := by
  have hi : i.toNat < ds.length := by omega
  have e : (ds.map V.int)[i.toNat]? = some (.int (ds.getD i.toNat 0)) := by
    rw [List.getElem?_map, List.getElem?_eq_getElem hi, List.getD_eq_getElem?_getD, List.getElem?_eq_getElem hi]
    rfl
  have := atI_nat e
  rwa [show ((i.toNat : Nat) : Int) = i by omega] at this
theorem getD_mem {ds : List Int} {j : Nat} (h1 : j < ds.length) : ds.getD j 0 ∈ ds := by
  rw [List.getD_eq_getElem?_getD, List.getElem?_eq_getElem h1]
  exact List.getElem_mem h1
theorem pure_l_cells {K : PySem.W.Frag} {vs : List V} {H : Hp} {Q : VK} {E : XK} {D : Ends} (hD : D.rt = Q) {N : List Str} (hN : N.length = 10) (h : sp_l_cells K vs H Q E) : t_l_cells K D (start N vs) H := by
  obtain ⟨a, g, b, h, w, ns, rfl, hn, sk, b0, b1, hs, gk, q⟩ := h
  subst hD
  rw [start_eq hN]
  change t_l_cells K D [some (.ref a), some (.int b), some (.ref g), none, none, none, none, none, none, none] H
  have gb := gk
  obtain ⟨g1, g2, g3, g4⟩ := gb
  have hwl := hw_le gk
  obtain ⟨dk, dl⟩ := drawn_ok sk
  have cast : ((h * w : Nat) : Int) = (h : Int) * w := Int.natCast_mul h w
  -- drawn
  refine q_asgL (i := 3) (xs := (lDrawn ns).map V.int) (el_if (b := !decide (ns = [])) (et_is (et_test (ev_neD (ed_ints (es_of (ev_var rfl) hn)) ed_nil (shaped_ints ns) shaped_nil)) (by rw [eqv_ints_nil])) (fun hb => ?_) (fun hb => ?_)) fun d H1 hd e1 h1 => ?_
  · have hb' : ¬ ns = [] := by simpa using hb
    have := el_sl (K := K) (te := tVar 0) (σ := [some (.ref a), some (.int b), some (.ref g), none, none, none, none, none, none, none]) (H := H) (hi := some 63) (ev_var (i := 0) rfl) eo_none (eo_some ev_c) hn
    rw [show (some (63 : Int)) = some ((63 : Nat) : Int) from rfl, cutTo, ← List.map_take] at this
    rw [show lDrawn ns = ns.take 63 from if_neg hb']
    exact this
  · have hb' : ns = [] := by simpa using hb
    rw [show lDrawn ns = [5] from if_pos hb']
    exact el_lst (ea_cons ev_c ea_nil) (by simp)
  have hd1 : SqL K H1 d ((lDrawn ns).map V.int) := sq_of h1
  have hs1 := ex_t e1 hs
  refine q_asg (i := 4) (v := .int ((lDrawn ns).sum + b)) (by walk_at "ev") fun H2 e2 => ?_
  have hs2 := ex_t e2 hs1
  have hd2 := ex_l e2 hd1
  refine q_parL (i := 5) (j := 6) (x := .int ((h : Int) * w)) (xs := []) (by walk_at "ev") (el_lst ea_nil (by simp)) fun p H3 hp e3 h3 => ?_
  have hs3 := ex_t e3 hs2
  have hd3 := ex_l e3 hd2
  have sb : Bits ((lDrawn ns).sum + b) := sum_bits dk.1 dk.2 (by omega)
  -- what follows the two ifs
  have fin : ∀ (p' : Addr) (fs : List Int) (y7 y8 y9 : Option V) (H4 : Hp), H2 p' = none → Ex H2 H4 → H4 p' = some (.lst (fs.map V.int)) → (if fs = [] then [((lDrawn ns).sum + b) % ((h : Int) * w)] else fs) = lCells ns b h w →
      tRet (tIf (tTest (tOp (rNeD K) (tVar 6) (tLst tNil))) (tVar 6) (tLst (tCons (tOp oMod (tVar 4) (tVar 5)) tNil))) D [some (.ref a), some (.int b), some (.ref g), some (.ref d), some (.int ((lDrawn ns).sum + b)), some (.int ((h : Int) * w)), some (.ref p'), y7, y8, y9] H4 := by
    intro p' fs y7 y8 y9 H4 hp' e4 h4 he
    refine s_retIf (b := !decide (fs = [])) (et_is (et_test (ev_neD (ed_ints (es_of (K := K) (ev_var rfl) (sq_of h4))) ed_nil (shaped_ints fs) shaped_nil)) (by rw [eqv_ints_nil])) (fun hb H5 e5 => ?_) (fun hb H5 e5 => ?_)
    · have hb' : ¬ fs = [] := by simpa using hb
      rw [if_neg hb'] at he
      refine s_ret (ev_var rfl) fun H6 e6 => q p' H6 (fresh_back (e1.trans e2) hp') ((((e1.trans e2).trans e4).trans e5).trans e6) ?_
      rw [← he]
      exact e6 _ _ (e5 _ _ h4)
    · have hb' : fs = [] := by simpa using hb
      rw [if_pos hb'] at he
      refine s_retL (xs := [.int (((lDrawn ns).sum + b) % ((h : Int) * w))]) (el_lst (ea_cons (ev_op (x := .int ((lDrawn ns).sum + b)) (y := .int ((h : Int) * w)) (ev_var rfl) (ev_var rfl) (rv_I (by show (0 : Int) < _; omega))) ea_nil) (by simp)) fun p6 H6 hp6 e6 h6 => q p6 H6 (fresh_back (((e1.trans e2).trans e4).trans e5) hp6) ((((e1.trans e2).trans e4).trans e5).trans e6) ?_
      rw [← he]
      exact h6
  have hm : ((h : Int) * w).toNat = h * w := by rw [← cast]; exact Int.toNat_natCast _
  refine q_forR1 (j := 7) (n := (h : Int) * w) (ea_cons (ev_var rfl) ea_nil) ⟨by omega, by omega⟩ (fun i σ' H' => ∃ y7 y8, σ' = [some (.ref a), some (.int b), some (.ref g), some (.ref d), some (.int ((lDrawn ns).sum + b)), some (.int ((h : Int) * w)), some (.ref p), y7, y8, none] ∧ Ex H2 H' ∧ H' p = some (.lst ((lCells0 ns b i).map V.int))) (fun H4 e4 => ⟨none, none, rfl, e3.trans e4, e4 _ _ h3⟩) (fun i σ' H' hi hP => ?_) (fun σ' H' hP => ?_)
  · obtain ⟨y7, y8, rfl, e4, h4⟩ := hP
    have hd4 := ex_l e4 hd2
    have li : i < h * w := by omega
    have ix0 : 0 ≤ ((i : Int) + b) % ((lDrawn ns).length : Int) := Int.emod_nonneg _ (by omega)
    have ix1 : ((i : Int) + b) % ((lDrawn ns).length : Int) < ((lDrawn ns).length : Int) := Int.emod_lt_of_pos _ (by omega)
    have mem := getD_mem (ds := lDrawn ns) (j := (((i : Int) + b) % ((lDrawn ns).length : Int)).toNat) (by omega)
    have ll : ((lDrawn ns).map V.int).length = (lDrawn ns).length := List.length_map ..
    have item : Ev (tOp (rIxL K) (tVar 3) (tOp oMod (tOp oAdd (tVar 7) (tVar 1)) (tCB (rLenS K) (tCons (tVar 3) tNil)))) [some (.ref a), some (.int b), some (.ref g), some (.ref d), some (.int ((lDrawn ns).sum + b)), some (.int ((h : Int) * w)), some (.ref p), some (.int (i : Int)), y8, none] H'
        (.int ((lDrawn ns).getD (((i : Int) + b) % ((lDrawn ns).length : Int)).toNat 0)) := by
      refine ev_ixS (i := ((i : Int) + b) % ((lDrawn ns).length : Int)) (es_of (ev_var rfl) hd4) ?_ (getD_at ix0 ix1)
      refine ev_op (x := .int ((i : Int) + b)) (y := .int ((lDrawn ns).length : Int)) (by walk_at "ev") (ev_is (ev_lenS (es_of (ev_var rfl) hd4)) (by rw [ll])) (rv_I (by show (0 : Int) < _; omega))
    have num := ev_l_number (K := K) (E := E0) (ea_cons item (ea_cons (ta := tOp oAdd (tVar 7) (tVar 1)) (x := .int ((i : Int) + b)) (by walk_at "ev") (ea_cons (ta := tVar 4) (x := .int ((lDrawn ns).sum + b)) (ev_var rfl) ea_nil))) (bits_mem dk mem) (by omega) (by omega) sb
    refine q_asg (i := 8) (ev_op (y := .int 3) num ev_c (rv_I ⟨by decide, by decide⟩)) fun H5 e5 => ?_
    have h5 := e5 _ _ h4
    have s0 : 0 ≤ ((lDrawn ns).sum + b) % 4 := Int.emod_nonneg _ (by decide)
    have s4 : ((lDrawn ns).sum + b) % 4 < 4 := Int.emod_lt_of_pos _ (by decide)
    have ek : lKeep ns b i = decide (0 < lPick (lNumber ((lDrawn ns).getD (((i : Int) + b) % ((lDrawn ns).length : Int)).toNat 0) ((i : Int) + b) ((lDrawn ns).sum + b) / 3) (((lDrawn ns).sum + b) % 4)) := rfl
    generalize lNumber ((lDrawn ns).getD (((i : Int) + b) % ((lDrawn ns).length : Int)).toNat 0) ((i : Int) + b) ((lDrawn ns).sum + b) / 3 = nn at *
    have tst : EvT (tTest (tOp oGt (tOp (rIxT K) (tTup (tCons (tOp oMod (tVar 8) (tC (.int 2))) (tCons (tOp oMod (tVar 8) (tC (.int 3))) (tCons (tC (.int 1)) (tCons (tOp oMod (tVar 8) (tC (.int 5))) tNil))))) (tOp oMod (tVar 4) (tC (.int 4)))) (tC (.int 0)))) [some (.ref a), some (.int b), some (.ref g), some (.ref d), some (.int ((lDrawn ns).sum + b)), some (.int ((h : Int) * w)), some (.ref p), some (.int (i : Int)), some (.int nn), none] H5 (lKeep ns b i) := by
      rw [ek]
      exact et_test (ev_op (x := .int (lPick nn (((lDrawn ns).sum + b) % 4))) (y := .int 0) (ev_ixT (i := ((lDrawn ns).sum + b) % 4) (xs := [V.int (nn % 2), V.int (nn % 3), V.int 1, V.int (nn % 5)]) (est_new (eu_tup (by walk_at "ea") (by simp))) (by walk_at "ev") (pick_at nn _ s0 s4)) ev_c rv_I0)
    have ln : ((lCells0 ns b i).map V.int).length < 100000 := by
      rw [List.length_map]
      unfold lCells0
      rw [List.length_map]
      have := List.length_filter_le (lKeep ns b) (List.range i)
      rw [List.length_range] at this
      omega
    have step : ∀ k : Bool, lKeep ns b i = k → (lCells0 ns b (i + 1)).map V.int = (lCells0 ns b i).map V.int ++ if k = true then [V.int (i : Int)] else [] := by
      intro k hk
      unfold lCells0
      rw [List.range_succ, List.filter_append, List.map_append, List.map_append]
      congr 1
      rw [List.filter_cons, hk]
      cases k <;> rfl
    refine s_when tst (fun hb H6 e6 => ?_) (fun hb H6 e6 => ?_)
    · refine s_app (K := K) (v := .int (i : Int)) (e6 _ _ h5) (ev_var rfl) (ev_var rfl) ln fun H7 e7 => ⟨_, _, rfl, Ex.mut (((e4.trans e5).trans e6).trans e7) hp, ?_⟩
      rw [upd_same, step true hb]
      rfl
    · refine ⟨_, _, rfl, (e4.trans e5).trans e6, ?_⟩
      rw [step false hb]
      show H6 p = some (.lst ((lCells0 ns b i).map V.int ++ []))
      rw [List.append_nil]
      exact e6 _ _ h5
  · obtain ⟨y7, y8, rfl, e4, h4⟩ := hP
    rw [hm] at h4
    have cl : (lCells0 ns b (h * w)).length ≤ 40000 := by
      unfold lCells0
      rw [List.length_map]
      have := List.length_filter_le (lKeep ns b) (List.range (h * w))
      rw [List.length_range] at this
      omega
    have ht : EvT (tTest (tOp rEq (tOp oMod (tVar 4) (tC (.int 4))) (tC (.int 2)))) [some (.ref a), some (.int b), some (.ref g), some (.ref d), some (.int ((lDrawn ns).sum + b)), some (.int ((h : Int) * w)), some (.ref p), y7, y8, none] H' (decide (((lDrawn ns).sum + b) % 4 = 2)) :=
      et_is (et_test (ev_op (x := .int (((lDrawn ns).sum + b) % 4)) (y := .int 2) (by walk_at "ev") ev_c (rv_eq rfl))) (by rw [Bool.eq_iff_iff]; simp)
    refine q_when ht (fun hb H5 e5 => ?_) (fun hb H5 e5 => ?_)
    · have hb' := of_decide_eq_true hb
      have hs5 := ex_t (e4.trans e5) hs2
      have l1 := el_lcI (K := K) (ns := lCells0 ns b (h * w)) (j := 9) (vs := [9]) (tl := tVar 6) (te := tVar 9) (σ := [some (.ref a), some (.int b), some (.ref g), some (.ref d), some (.int ((lDrawn ns).sum + b)), some (.int ((h : Int) * w)), some (.ref p), y7, y8, none]) (H := H5)
        (t := tTest (tOp oGe (tOp oDiv (tVar 9) (tOp (rIxT K) (tVar 2) (tC (.int 1)))) (tOp oMod (tOp oDiv (tVar 4) (tC (.int 4))) (tOp (rIxT K) (tVar 2) (tC (.int 0)))))) (fun c => decide (((lDrawn ns).sum + b) / 4 % (h : Int) ≤ c / (w : Int))) V.int (es_of (ev_var rfl) (sq_of (e5 _ _ h4))) cl (fun x => rfl)
        (fun n H6 e6 hn => by
          have hs6 := ex_t e6 hs5
          exact et_test (ev_op (x := .int (n / (w : Int))) (y := .int (((lDrawn ns).sum + b) / 4 % (h : Int))) (by walk_at "ev") (by walk_at "ev") rv_I0)) (fun n H6 e6 hn _ => ev_var rfl)
      refine q_asgL (i := 6) l1 fun p6 H6 hp6 e6 h6 => ?_
      have hs6 := ex_t e6 hs5
      have l2 := el_lcI (K := K) (ns := (lCells0 ns b (h * w)).filter fun c => decide (((lDrawn ns).sum + b) / 4 % (h : Int) ≤ c / (w : Int))) (j := 9) (vs := [9]) (tl := tVar 6) (te := tVar 9) (σ := [some (.ref a), some (.int b), some (.ref g), some (.ref d), some (.int ((lDrawn ns).sum + b)), some (.int ((h : Int) * w)), some (.ref p6), y7, y8, none]) (H := H6)
        (t := tTest (tOp oLe (tOp oMod (tVar 9) (tOp (rIxT K) (tVar 2) (tC (.int 1)))) (tOp oMod (tOp oDiv (tVar 4) (tC (.int 8))) (tOp (rIxT K) (tVar 2) (tC (.int 1)))))) (fun c => decide (c % (w : Int) ≤ ((lDrawn ns).sum + b) / 8 % (w : Int))) V.int (es_of (ev_var rfl) (sq_of h6)) (Nat.le_trans (List.length_filter_le _ _) cl) (fun x => rfl)
        (fun n H7 e7 hn => by
          have hs7 := ex_t e7 hs6
          exact et_test (ev_op (x := .int (n % (w : Int))) (y := .int (((lDrawn ns).sum + b) / 8 % (w : Int))) (by walk_at "ev") (by walk_at "ev") rv_I0)) (fun n H7 e7 hn _ => ev_var rfl)
      refine s_asgL (i := 6) l2 fun p7 H7 hp7 e7 h7 => ?_
      refine fin p7 _ y7 y8 none H7 (fresh_back ((e4.trans e5).trans e6) hp7) (((e4.trans e5).trans e6).trans e7) h7 ?_
      unfold lCells
      dsimp only
      rw [if_pos hb']
    · have hb' := of_decide_eq_false hb
      refine fin p _ y7 y8 none H5 hp (e4.trans e5) (e5 _ _ h4) ?_
      unfold lCells
      dsimp only
      rw [if_neg hb']

/-! ### lists of pairs -/
/-- refs to tuples of two ints -/
def Prs (K : PySem.W.Frag) (H : Hp) : List Addr → List (Int × Int) → Prop := Paired fun q pr => SqT K H q [.int pr.1, .int pr.2]
theorem Prs.mono {K : PySem.W.Frag} {H H' : Hp} {ps : List Addr} {prs : List (Int × Int)} (e : Ex H H') (h : Prs K H ps prs) : Prs K H' ps prs := Paired.mapP h fun _ _ z => ex_t e z
theorem paired_get {α β : Type} {F : α → β → Prop} : ∀ {l : List α} {m : List β} {i : Nat} {a : α}, Paired F l m → l[i]? = some a → ∃ b, m[i]? = some b ∧ F a b
  | _ :: _, _ :: _, 0, _, .cons h _, e => by
    have := Option.some.inj e
    subst this
    exact ⟨_, rfl, h⟩
  | _ :: _, _ :: _, i + 1, a, .cons _ hs, e => paired_get (i := i) (a := a) hs e
/-- arguments that are written pairs of ints -/
def EvAP (K : PySem.W.Frag) (ta : TA) (σ : L2.St) (H : Hp) (prs : List (Int × Int)) : Prop := ∀ H1, Ex H H1 → ∀ Q : List V → Hp → Prop, (∀ ps H2, Ex H1 H2 → Prs K H2 ps prs → Q (ps.map V.ref) H2) → ta σ H1 Q
section
variable {K : PySem.W.Frag} {σ : L2.St} {H H' : Hp} {ta tb te tl : TE} {tr : TA} {t : TT} {D : Ends} {tz : TS}
theorem eap_nil : EvAP K tNil σ H [] := fun H1 _ _ q => q [] H1 (Ex.refl H1) .nil
theorem eap_cons {x y : Int} {prs : List (Int × Int)} (h : EvST K ta σ H [.int x, .int y]) (hr : EvAP K tr σ H prs) : EvAP K (tCons ta tr) σ H ((x, y) :: prs) := fun H1 e _ q =>
  h H1 e _ fun p H2 e2 hp => hr H2 (e.trans e2) _ fun ps H3 e3 hs => q (p :: ps) H3 (e2.trans e3) (.cons (ex_t e3 hp) hs)
/-- xs = [(a, b), ..] -/
theorem q_asgPrs {i : Nat} {prs : List (Int × Int)} (h : EvAP K tr σ H prs) (hl : prs.length ≤ 1000) (k : ∀ p ps H1, H p = none → Ex H H1 → H1 p = some (.lst (ps.map V.ref)) → Prs K H1 ps prs → tz D (σ.set i (some (.ref p))) H1) : tSeq (tAsg (tLst tr) (gName i)) tz D σ H :=
  h H (Ex.refl H) _ fun ps H1 e hp => ⟨sz_of (by rw [List.length_map, Paired.length hp]; omega), fun p np => k p ps _ (fresh_back e np) (e.trans (Ex.new np)) upd_same (hp.mono (Ex.new np))⟩
/-- [e for a, b in ps if t], ps a list of pairs -/
theorem el_lcPrs {i j : Nat} {vs : List Nat} {a : Addr} {ps : List Addr} {prs : List (Int × Int)} (f : Int × Int → Bool) (g : Int × Int → V) (h : Ev tl σ H (.ref a)) (ha : SqL K H a (ps.map V.ref)) (hp : Prs K H ps prs) (hz : ps.length ≤ 40000)
    (hw : ∀ x y, wipe (((wipe σ vs).set i (some x)).set j (some y)) vs = wipe σ vs)
    (ht : ∀ (p : Int × Int) H1, Ex H H1 → p ∈ prs → EvT t (((wipe σ vs).set i (some (.int p.1))).set j (some (.int p.2))) H1 (f p)) (he : ∀ (p : Int × Int) H1, Ex H H1 → p ∈ prs → f p = true → Ev te (((wipe σ vs).set i (some (.int p.1))).set j (some (.int p.2))) H1 (g p)) :
    EvL (tLc (iList K tl) (gTup K 2 (gCons (gName i) (gCons (gName j) gNil))) t te vs) σ H ((prs.filter f).map g) := fun H0 e Q q => h H0 e _ fun H1 e1 => ⟨a, rfl, ⟨_, ex_l (e.trans e1) ha⟩, fun Dl hD => by
  have ln : (ps.map V.ref).length = prs.length := by rw [List.length_map]; exact Paired.length hp
  refine lc_list (xs := ps.map V.ref) (fun n => Grow H1 Dl (((prs.take n).filter f).map g)) ⟨hD, Ex.new hD, upd_same⟩ (fun n H' _ p => ex_l ((e.trans e1).trans p.2.1) ha) (fun n x H' hi p => ?_) (fun H' p => ?_)
  · rw [List.getElem?_map] at hi
    obtain ⟨r, hr, rfl⟩ := Option.map_eq_some_iff.mp hi
    obtain ⟨pr, hpr, hq⟩ := paired_get hp hr
    have hm : pr ∈ prs := List.mem_of_getElem? hpr
    refine ⟨r, _, rfl, ex_t ((e.trans e1).trans p.2.1) hq, rfl, _, _, rfl, _, _, rfl, rfl, hw _ _, ?_⟩
    have hlen : (((prs.take n).filter f).map g).length < 100000 := by
      rw [List.length_map]
      have h1 := List.length_filter_le f (prs.take n)
      have h2 : (prs.take n).length ≤ prs.length := by rw [List.length_take]; omega
      rw [List.length_map] at ln
      omega
    have w := grow_turn p hlen (ht pr H1 (e.trans e1) hm) (he pr H1 (e.trans e1) hm)
    have e2 : (((prs.take (n + 1)).filter f).map g) = ((prs.take n).filter f).map g ++ if f pr = true then [g pr] else [] := by
      rw [take_snoc hpr, List.filter_append, List.map_append]
      congr 1
      cases hf : f pr <;> simp [hf]
    rw [e2]
    exact w
  · rw [ln, List.take_length] at p
    exact q Dl H' (fresh_back e1 p.1) (e1.trans p.2.1) p.2.2⟩
end
/-! ### _law_beside -/
def sp_l_beside (K : PySem.W.Frag) : Sp := fun vs H Q _ => ∃ g h w x, vs = [.ref g, .int x] ∧ SqT K H g [.int ((h : Nat) : Int), .int ((w : Nat) : Int)] ∧ GOk h w ∧ RetL ((lBeside h w x).map V.int) H Q
theorem el_l_beside {K : PySem.W.Frag} {σ : L2.St} {H : Hp} {ta : TA} {E : XK} {g : Addr} {h w : Nat} {x : Int} (ha : EvA ta σ H [.ref g, .int x]) (hs : SqT K H g [.int (h : Int), .int (w : Int)]) (gk : GOk h w) : EvL (tCall (sp_l_beside K) [] E ta) σ H ((lBeside h w x).map V.int) := fun H1 e Q q =>
  ha H1 e _ fun H2 e2 => ⟨g, h, w, x, rfl, ex_t (e.trans e2) hs, gk, fun p H3 hp e3 h3 => q p H3 (fresh_back e2 hp) (e2.trans e3) h3⟩
def t_l_beside (K : PySem.W.Frag) : TS := (tSeq (tPar 2 3 (tCons (tOp oDiv (tVar 1) (tOp (rIxT K) (tVar 0) (tC (.int 1)))) (tCons (tOp oMod (tVar 1) (tOp (rIxT K) (tVar 0) (tC (.int 1)))) tNil)))
      (tSeq (tAsg (tLst (tCons (tTup (tCons (tOp oSub (tVar 2) (tC (.int 1))) (tCons (tVar 3) tNil))) (tCons (tTup (tCons (tVar 2) (tCons (tOp oSub (tVar 3) (tC (.int 1))) tNil))) (tCons (tTup (tCons (tVar 2) (tCons (tOp oAdd (tVar 3) (tC (.int 1))) tNil))) (tCons (tTup (tCons (tOp oAdd (tVar 2) (tC (.int 1))) (tCons (tVar 3) tNil))) tNil))))) (gName 4))
      (tRet (tLc (iList K (tVar 4)) (gTup K 2 (gCons (gName 5) (gCons (gName 6) gNil))) (tAnd (tTest (tChain oLe oLt (tC (.int 0)) (tVar 5) (tOp (rIxT K) (tVar 0) (tC (.int 0))))) (tTest (tChain oLe oLt (tC (.int 0)) (tVar 6) (tOp (rIxT K) (tVar 0) (tC (.int 1)))))) (tOp oAdd (tOp oMul (tVar 5) (tOp (rIxT K) (tVar 0) (tC (.int 1)))) (tVar 6)) [5, 6]))))
theorem pure_l_beside {K : PySem.W.Frag} {vs : List V} {H : Hp} {Q : VK} {E : XK} {D : Ends} (hD : D.rt = Q) {N : List Str} (hN : N.length = 7) (h : sp_l_beside K vs H Q E) : t_l_beside K D (start N vs) H := by
  obtain ⟨g, h, w, x, rfl, hs, gk, q⟩ := h
  subst hD
  rw [start_eq hN]
  change t_l_beside K D [some (.ref g), some (.int x), none, none, none, none, none] H
  have gb := gk
  obtain ⟨g1, g2, g3, g4⟩ := gb
  refine q_par (i := 2) (j := 3) (x := .int (x / (w : Int))) (y := .int (x % (w : Int))) (by walk_at "ev") (by walk_at "ev") fun H1 e1 => ?_
  generalize hr : x / (w : Int) = r
  generalize ha : x % (w : Int) = a
  refine q_asgPrs (K := K) (i := 4) (prs := lSpots r a) (eap_cons (x := r - 1) (y := a) (by walk_at "est") (eap_cons (x := r) (y := a - 1) (by walk_at "est") (eap_cons (x := r) (y := a + 1) (by walk_at "est") (eap_cons (x := r + 1) (y := a) (by walk_at "est") eap_nil)))) (by simp [lSpots]) fun p ps H2 hp e2 h2 hps => ?_
  have hs2 := ex_t (e1.trans e2) hs
  have pl : ps.length = 4 := Paired.length hps
  have l := el_lcPrs (K := K) (H := H2) (σ := [some (.ref g), some (.int x), some (.int r), some (.int a), some (.ref p), none, none]) (tl := tVar 4) (i := 5) (j := 6) (vs := [5, 6]) (t := tAnd (tTest (tChain oLe oLt (tC (.int 0)) (tVar 5) (tOp (rIxT K) (tVar 0) (tC (.int 0))))) (tTest (tChain oLe oLt (tC (.int 0)) (tVar 6) (tOp (rIxT K) (tVar 0) (tC (.int 1))))))
    (te := tOp oAdd (tOp oMul (tVar 5) (tOp (rIxT K) (tVar 0) (tC (.int 1)))) (tVar 6)) (fun pr => (decide (0 ≤ pr.1) && decide (pr.1 < (h : Int))) && (decide (0 ≤ pr.2) && decide (pr.2 < (w : Int)))) (fun pr => V.int (pr.1 * (w : Int) + pr.2)) (ev_var rfl) (sq_of h2) hps (by omega) (fun _ _ => rfl)
    (fun pr H3 e3 _ => by
      have hs3 := ex_t e3 hs2
      refine et_and (et_test (ev_chain (x := .int 0) (y := .int pr.1) (z := .int (h : Int)) ev_c (ev_var rfl) rv_I0 (fun _ => ?_) (fun _ => rv_I0))) (fun _ => et_test (ev_chain (x := .int 0) (y := .int pr.2) (z := .int (w : Int)) ev_c (ev_var rfl) rv_I0 (fun _ => ?_) (fun _ => rv_I0)))
      · walk_at "ev"
      · walk_at "ev")
    (fun pr H3 e3 _ _ => by
      have hs3 := ex_t e3 hs2
      refine ev_op (x := .int (pr.1 * (w : Int))) (y := .int pr.2) (ev_op (x := .int pr.1) (y := .int (w : Int)) (ev_var rfl) ?_ (rv_I (.inr ⟨by omega, by omega⟩))) (ev_var rfl) rv_I0
      walk_at "ev")
  refine s_retL l fun p3 H3 hp3 e3 h3 => q p3 H3 (fresh_back (e1.trans e2) hp3) ((e1.trans e2).trans e3) ?_
  rw [h3]
  unfold lBeside
  rw [hr, ha, List.map_map]
  rfl
theorem filter_len (l : List Int) (f : Int → Bool) : (l.filter f).length ≤ l.length := List.length_filter_le f l
theorem lBeside_len (h w : Nat) (x : Int) : (lBeside h w x).length ≤ 4 := by
  unfold lBeside
  rw [List.length_map]
  exact Nat.le_trans (List.length_filter_le _ _) (by simp [lSpots])
/-! ### _law_numbers -/
def sp_l_numbers (K : PySem.W.Frag) : Sp := fun vs H Q _ => ∃ g c h w cs, vs = [.ref g, .ref c] ∧ SqT K H g [.int ((h : Nat) : Int), .int ((w : Nat) : Int)] ∧ GOk h w ∧ SqL K H c ((cs : List Int).map V.int) ∧ RetP (fun H1 v H2 => NewLL H1 v H2 (ints2 (lNumbers h w cs))) H Q
theorem ep_l_numbers {K : PySem.W.Frag} {σ : L2.St} {H : Hp} {ta : TA} {E : XK} {g c : Addr} {h w : Nat} {cs : List Int} (ha : EvA ta σ H [.ref g, .ref c]) (hs : SqT K H g [.int (h : Int), .int (w : Int)]) (gk : GOk h w) (hc : SqL K H c (cs.map V.int)) :
    EvP (tCall (sp_l_numbers K) [] E ta) σ H (fun H1 v H2 => NewLL H1 v H2 (ints2 (lNumbers h w cs))) := fun H1 e Q q =>
  ha H1 e _ fun H2 e2 => ⟨g, c, h, w, cs, rfl, ex_t (e.trans e2) hs, gk, ex_l (e.trans e2) hc, fun v H3 e3 z => q v H3 (e2.trans e3) (z.back e2)⟩
def t_l_numbers (K : PySem.W.Frag) : TS := (tSeq (tAsg (tLst tNil) (gName 2))
      (tSeq (tFor (iRng1 (tCons (tOp (rIxT K) (tVar 0) (tC (.int 0))) tNil)) (gName 3) (tSeq (tAsg (tLst tNil) (gName 4))
      (tSeq (tFor (iRng1 (tCons (tOp (rIxT K) (tVar 0) (tC (.int 1))) tNil)) (gName 5) (tSeq (tAsg (tOp oAdd (tOp oMul (tVar 3) (tOp (rIxT K) (tVar 0) (tC (.int 1)))) (tVar 5)) (gName 6))
      (tSeq (tAsg (tLc (iList K (tCall (sp_l_beside K) [] E0 (tCons (tVar 0) (tCons (tVar 6) tNil)))) (gName 9) (tTest (tOp rEq (tOp (rIn K false) (tVar 9) (tVar 1)) (tOp (rIn K false) (tVar 6) (tVar 1)))) (tVar 9) [9]) (gName 7))
      (tSeq (tAsg (tIf (tTest (tOp (rIn K false) (tVar 6) (tVar 1))) (tOp oSub (tC (.int 4)) (tCB (rLenS K) (tCons (tCall (sp_l_beside K) [] E0 (tCons (tVar 0) (tCons (tVar 6) tNil))) tNil))) (tC (.int 0))) (gName 8))
      (tDrop (tBM K "list" rAppend (tVar 4) (tCons (tOp oAdd (tOp oSub (tCB (rLenS K) (tCons (tCall (sp_l_beside K) [] E0 (tCons (tVar 0) (tCons (tVar 6) tNil))) tNil)) (tCB (rLenS K) (tCons (tVar 7) tNil))) (tVar 8)) tNil)))))))
      (tDrop (tBM K "list" rAppend (tVar 2) (tCons (tVar 4) tNil))))))
      (tRet (tVar 2))))
def lRow (h w : Nat) (cs : List Int) (r n : Nat) : List Int := (List.range n).map fun (a : Nat) => lSides1 h w cs ((r : Int) * w + (a : Int))
theorem pure_l_numbers {K : PySem.W.Frag} {vs : List V} {H : Hp} {Q : VK} {E : XK} {D : Ends} (hD : D.rt = Q) {N : List Str} (hN : N.length = 10) (h : sp_l_numbers K vs H Q E) : t_l_numbers K D (start N vs) H := by
  obtain ⟨g, c, h, w, cs, rfl, hs, gk, hc, q⟩ := h
  subst hD
  rw [start_eq hN]
  change t_l_numbers K D [some (.ref g), some (.ref c), none, none, none, none, none, none, none, none] H
  have gb := gk
  obtain ⟨g1, g2, g3, g4⟩ := gb
  refine q_asgL (i := 2) (xs := []) (el_lst ea_nil (by simp)) fun p H1 hp e1 h1 => ?_
  have hs1 := ex_t e1 hs
  have hth : ((h : Nat) : Int).toNat = h := Int.toNat_natCast h
  have htw : ((w : Nat) : Int).toNat = w := Int.toNat_natCast w
  refine q_forR1 (j := 3) (n := (h : Int)) (ea_cons (by walk_at "ev") ea_nil) ⟨by omega, by omega⟩ (fun i σ' H' => ∃ y3 y4 y5 y6 y7 y8, σ' = [some (.ref g), some (.ref c), some (.ref p), y3, y4, y5, y6, y7, y8, none] ∧ Ex H H' ∧ ∃ ps : List Addr, H' p = some (.lst (ps.map V.ref)) ∧ ps.length = i ∧ Paired (fun (q : Addr) xs => (H q = none ∧ q ≠ p) ∧ H' q = some (.lst xs)) ps ((List.range i).map fun r => (lRow h w cs r w).map V.int))
    (fun H2 e2 => ⟨none, none, none, none, none, none, rfl, e1.trans e2, [], e2 _ _ h1, rfl, .nil⟩) (fun i σ' H' hi hP => ?_) (fun σ' H' hP => ?_)
  · obtain ⟨y3, y4, y5, y6, y7, y8, rfl, e2, ps, h2, pl, hps⟩ := hP
    refine q_asgL (i := 4) (xs := []) (el_lst ea_nil (by simp)) fun l H3 hl e3 h3 => ?_
    have hs3 := ex_t (e2.trans e3) hs
    refine q_forR1 (j := 5) (n := (w : Int)) (ea_cons (by walk_at "ev") ea_nil) ⟨by omega, by omega⟩ (fun j σ' H'' => ∃ y5 y6 y7 y8, σ' = [some (.ref g), some (.ref c), some (.ref p), some (.int (i : Int)), some (.ref l), y5, y6, y7, y8, none] ∧ Ex H' H'' ∧ H'' l = some (.lst ((lRow h w cs i j).map V.int)))
      (fun H4 e4 => ⟨_, _, _, _, rfl, e3.trans e4, e4 _ _ h3⟩) (fun j σ' H4 hj hP => ?_) (fun σ' H4 hP => ?_)
    · obtain ⟨y5, y6, y7, y8, rfl, e4, h4⟩ := hP
      have hs4 := ex_t (e2.trans e4) hs
      have hc4 := ex_l (e2.trans e4) hc
      refine q_asg (i := 6) (v := .int ((i : Int) * w + (j : Int))) (by walk_at "ev") fun H5 e5 => ?_
      have hs5 := ex_t e5 hs4
      have hc5 := ex_l e5 hc4
      generalize hx : ((i : Int) * w + (j : Int)) = x
      have b := el_l_beside (E := E0) (K := K) (H := H5) (σ := [some (.ref g), some (.ref c), some (.ref p), some (.int (i : Int)), some (.ref l), some (.int (j : Int)), some (.int x), y7, y8, none]) (ta := tCons (tVar 0) (tCons (tVar 6) tNil)) (x := x) (ea_cons (ev_var rfl) (ea_cons (ev_var rfl) ea_nil)) hs5 gk
      have lb := lBeside_len h w x
      have sm := el_lcI (K := K) (t := tTest (tOp rEq (tOp (rIn K false) (tVar 9) (tVar 1)) (tOp (rIn K false) (tVar 6) (tVar 1)))) (te := tVar 9) (j := 9) (vs := [9]) (fun o => decide (o ∈ cs) == decide (x ∈ cs)) V.int (es_new b) (by omega) (fun x => rfl)
        (fun n H6 e6 hn => by
          have hc6 := ex_l e6 hc5
          refine et_is (et_test (ev_op (x := .bl (decide (n ∈ cs))) (y := .bl (decide (x ∈ cs))) (ev_isIn (ev_var rfl) (es_of (ev_var rfl) hc6)) (ev_isIn (ev_var rfl) (es_of (ev_var rfl) hc6)) (rv_eq rfl))) ?_
          exact dec_bl) (fun n H6 e6 hn _ => ev_var rfl)
      refine q_asgL (i := 7) sm fun s7 H6 hs7 e6 h6 => ?_
      have hs6 := ex_t e6 hs5
      have hc6 := ex_l e6 hc5
      have b6 := el_l_beside (E := E0) (K := K) (H := H6) (σ := [some (.ref g), some (.ref c), some (.ref p), some (.int (i : Int)), some (.ref l), some (.int (j : Int)), some (.int x), some (.ref s7), y8, none]) (ta := tCons (tVar 0) (tCons (tVar 6) tNil)) (x := x) (ea_cons (ev_var rfl) (ea_cons (ev_var rfl) ea_nil)) hs6 gk
      have lm : ((lBeside h w x).map V.int).length = (lBeside h w x).length := List.length_map ..
      refine q_asg (i := 8) (v := .int (if x ∈ cs then 4 - ((lBeside h w x).length : Int) else 0)) (ev_if (b := decide (x ∈ cs)) (et_test (ev_isIn (ev_var rfl) (es_of (ev_var rfl) hc6))) (fun hb => ?_) (fun hb => ?_)) fun H7 e7 => ?_
      · rw [if_pos (of_decide_eq_true hb)]
        have := ev_op (r := oSub) (ev_c (v := .int 4)) (ev_lenN (K := K) b6) rv_I0
        rw [lm] at this
        exact this
      · rw [if_neg (of_decide_eq_false hb)]
        exact ev_c
      have hs7' := ex_t e7 hs6
      have b7 := el_l_beside (E := E0) (K := K) (H := H7) (σ := [some (.ref g), some (.ref c), some (.ref p), some (.int (i : Int)), some (.ref l), some (.int (j : Int)), some (.int x), some (.ref s7), some (.int (if x ∈ cs then 4 - ((lBeside h w x).length : Int) else 0)), none]) (ta := tCons (tVar 0) (tCons (tVar 6) tNil)) (x := x) (ea_cons (ev_var rfl) (ea_cons (ev_var rfl) ea_nil)) hs7' gk
      have val := ev_op (r := oAdd) (ev_op (r := oSub) (ev_lenN (K := K) b7) (ev_lenS (K := K) (ta := tVar 7) (es_of (ev_var rfl) (sq_of (e7 _ _ h6)))) rv_I0) (ev_var (i := 8) rfl) rv_I0
      rw [lm, List.length_map] at val
      have h7 := e7 _ _ (e6 _ _ (e5 _ _ h4))
      have ln : ((lRow h w cs i j).map V.int).length < 100000 := by
        unfold lRow
        rw [List.length_map, List.length_map, List.length_range]
        omega
      refine s_app (K := K) (l := l) h7 (ev_var rfl) val ln fun H8 e8 => ⟨_, _, _, _, rfl, Ex.mut ((((e4.trans e5).trans e6).trans e7).trans e8) hl, ?_⟩
      rw [upd_same]
      unfold lRow
      rw [List.range_succ, List.map_append, List.map_append, List.map_singleton, List.map_singleton]
      rw [hx]
      rfl
    · obtain ⟨y5, y6, y7, y8, rfl, e4, h4⟩ := hP
      rw [htw] at h4
      have ln : (ps.map V.ref).length < 100000 := by rw [List.length_map]; omega
      refine s_app (K := K) (l := p) (e4 _ _ h2) (ev_var rfl) (v := .ref l) (ev_var rfl) ln fun H5 e5 => ⟨_, _, _, _, _, _, rfl, Ex.mut ((e2.trans e4).trans e5) hp, ps ++ [l], ?_, ?_, ?_⟩
      · rw [upd_same, List.map_append]
        rfl
      · rw [List.length_append, pl]
        rfl
      · have lp : l ≠ p := (ne_of_none h2 hl).symm
        rw [List.range_succ, List.map_append]
        refine paired_snoc (Paired.mapP hps fun q xs z => ⟨z.1, ?_⟩) ⟨⟨fresh_back e2 hl, lp⟩, ?_⟩
        · rw [upd_ne z.1.2]
          exact e5 _ _ (e4 _ _ z.2)
        · rw [upd_ne lp]
          exact e5 _ _ h4
  · obtain ⟨y3, y4, y5, y6, y7, y8, rfl, e2, ps, h2, pl, hps⟩ := hP
    rw [hth] at hps
    refine s_ret (ev_var rfl) fun H3 e3 => q _ H3 (e2.trans e3) ⟨p, ps, rfl, hp, e3 _ _ h2, ?_⟩
    have e : ints2 (lNumbers h w cs) = (List.range h).map fun r => (lRow h w cs r w).map V.int := by
      unfold ints2 lNumbers lRow
      rw [List.map_map]
      rfl
    rw [e]
    exact Paired.mapP hps fun q xs z => ⟨z.1.1, e3 _ _ z.2⟩

/-! ### the two countings agree -/
theorem four_filter {α β : Type} (f : α → Bool) (g : α → β) (a b c d : α) : ([a, b, c, d].filter f).map g = (if f a = true then [g a] else []) ++ (if f b = true then [g b] else []) ++ (if f c = true then [g c] else []) ++ (if f d = true then [g d] else []) := by
  simp only [List.filter_cons, List.filter_nil]
  cases f a <;> cases f b <;> cases f c <;> cases f d <;> rfl
theorem lBeside_eq {h w : Nat} (gk : GOk h w) {x : Int} (h0 : 0 ≤ x) (h1 : x < (h : Int) * w) : lBeside h w x = beside h w x := by
  obtain ⟨g1, g2, g3, g4⟩ := gk
  unfold lBeside lSpots beside besideA besideB besideC besideD
  rw [four_filter]
  have ew : w = 1 ∨ w = 2 ∨ w = 3 ∨ w = 4 ∨ w = 5 ∨ w = 6 := by omega
  have key : ∀ (b : Bool) (p : Prop) [Decidable p] (u v : Int), (b = true ↔ p) → (p → u = v) → (if b = true then [u] else []) = if p then [v] else [] := by
    intro b p _ u v hb hu
    by_cases hp : p
    · rw [if_pos (hb.mpr hp), if_pos hp, hu hp]
    · rw [if_neg (fun z => hp (hb.mp z)), if_neg hp]
  congr 1
  · congr 1
    · congr 1
      · refine key _ _ _ _ ?_ ?_
        · simp only [Bool.and_eq_true, decide_eq_true_eq]
          rcases ew with rfl | rfl | rfl | rfl | rfl | rfl <;> omega
        · rcases ew with rfl | rfl | rfl | rfl | rfl | rfl <;> dsimp only <;> omega
      · refine key _ _ _ _ ?_ ?_
        · simp only [Bool.and_eq_true, decide_eq_true_eq]
          rcases ew with rfl | rfl | rfl | rfl | rfl | rfl <;> omega
        · rcases ew with rfl | rfl | rfl | rfl | rfl | rfl <;> dsimp only <;> omega
    · refine key _ _ _ _ ?_ ?_
      · simp only [Bool.and_eq_true, decide_eq_true_eq]
        rcases ew with rfl | rfl | rfl | rfl | rfl | rfl <;> omega
      · rcases ew with rfl | rfl | rfl | rfl | rfl | rfl <;> dsimp only <;> omega
  · refine key _ _ _ _ ?_ ?_
    · simp only [Bool.and_eq_true, decide_eq_true_eq]
      rcases ew with rfl | rfl | rfl | rfl | rfl | rfl <;> omega
    · rcases ew with rfl | rfl | rfl | rfl | rfl | rfl <;> dsimp only <;> omega
theorem filter_split (l : List Int) (f : Int → Bool) : (l.filter f).length + (l.filter fun o => !f o).length = l.length := by
  induction l with
  | nil => rfl
  | cons a r ih =>
    simp only [List.filter_cons]
    cases f a <;> simp <;> omega
theorem lSides_eq {h w : Nat} (gk : GOk h w) (cs : List Int) {x : Int} (h0 : 0 ≤ x) (h1 : x < (h : Int) * w) : lSides1 h w cs x = sidesOf h w cs x := by
  unfold lSides1 sidesOf near
  rw [lBeside_eq gk h0 h1]
  have sp := filter_split (beside h w x) fun o => decide (o ∈ cs)
  by_cases hx : x ∈ cs
  · rw [if_pos hx, if_pos hx, decide_eq_true hx]
    have e : ((beside h w x).filter fun o => decide (o ∈ cs) == true) = (beside h w x).filter fun o => decide (o ∈ cs) := by
      congr 1
      funext o
      exact beq_true _
    rw [e]
    omega
  · rw [if_neg hx, if_neg hx, decide_eq_false hx]
    have e : ((beside h w x).filter fun o => decide (o ∈ cs) == false) = (beside h w x).filter fun o => !decide (o ∈ cs) := by
      congr 1
      funext o
      exact beq_false _
    rw [e]
    omega
theorem cell_in {h w r a : Nat} (hr : r < h) (ha : a < w) : 0 ≤ (r : Int) * w + (a : Int) ∧ (r : Int) * w + (a : Int) < (h : Int) * w := by
  have : r * w + a < h * w := by
    have : (r + 1) * w ≤ h * w := Nat.mul_le_mul_right w hr
    rw [Nat.succ_mul] at this
    omega
  have e1 : (r : Int) * w = ((r * w : Nat) : Int) := (Int.natCast_mul r w).symm
  have e2 : (h : Int) * w = ((h * w : Nat) : Int) := (Int.natCast_mul h w).symm
  omega
theorem lNumbers_eq {h w : Nat} (gk : GOk h w) (cs : List Int) : lNumbers h w cs = numbersOf h w cs := by
  unfold lNumbers numbersOf
  refine List.map_congr_left fun r hr => List.map_congr_left fun a ha => ?_
  have hc := cell_in (h := h) (w := w) (List.mem_range.mp hr) (List.mem_range.mp ha)
  exact lSides_eq gk cs hc.1 hc.2

/-! ### the law -/
theorem lay_dI (ns : List Int) : PyData.canLay0 (dI ns) = true := by
  unfold dI
  rw [PyData.canLay0]
  exact lay_ints ns
theorem lay_rows : ∀ nss : List (List Int), PyData.canLayAll0 (nss.map dI) = true
  | [] => rfl
  | n :: r => by
    rw [List.map_cons, PyData.canLayAll0, lay_dI n, lay_rows r]
    rfl
theorem depth_rows : ∀ nss : List (List Int), PyData.depthAll (nss.map dI) ≤ 2
  | [] => by simp [PyData.depthAll]
  | n :: r => by
    have h1 := depth_rows r
    have h2 := depth_ints n
    rw [List.map_cons, PyData.depthAll]
    have h3 : (dI n).depth ≤ 2 := by
      unfold dI
      rw [PyData.depth]
      omega
    omega
theorem shaped_rows (nss : List (List Int)) : SeqAt.shaped (dII nss) = true := shaped_of_len (lay_rows nss) (by have := depth_rows nss; omega)
theorem eqv_rows (nss : List (List Int)) : PyData.eqv (dII nss) (dII nss) = true := SeqAt.eqv_refl _ (by
  unfold dII
  rw [PyData.canLay0]
  exact lay_rows nss)
theorem eqv_ints (ns : List Int) : PyData.eqv (dI ns) (dI ns) = true := SeqAt.eqv_refl _ (lay_dI ns)
/-- rows of ints, each at most so long -/
def Rows (H : Hp) (m : Nat) (ps : List Addr) : Prop := ∀ q ∈ ps, ∃ ns : List Int, H q = some (.lst (ns.map V.int)) ∧ ns.length ≤ m
theorem paired_mem {α β : Type} {F : α → β → Prop} : ∀ {l : List α} {m : List β} {a : α}, Paired F l m → a ∈ l → ∃ b ∈ m, F a b
  | _ :: _, _ :: _, a, .cons h hs, ha => by
    rcases List.mem_cons.mp ha with rfl | ha
    · exact ⟨_, List.mem_cons_self, h⟩
    · obtain ⟨b, hb, hf⟩ := paired_mem hs ha
      exact ⟨b, List.mem_cons_of_mem _ hb, hf⟩
theorem numbersOf_rows {h w : Nat} {cs : List Int} {ns : List Int} (h1 : ns ∈ numbersOf h w cs) : ns.length = w := by
  unfold numbersOf at h1
  obtain ⟨r, _, rfl⟩ := List.mem_map.mp h1
  rw [List.length_map, List.length_range]
/-- a list of refs is no list of ints, but the empty one -/
theorem refs_ne_ints {ps : List Addr} {ns : List Int} {q : Addr} (hq : q ∈ ps) : HO.lst (ps.map V.ref) ≠ HO.lst (ns.map V.int) := by
  intro e
  have e2 := HO.lst.inj e
  cases ps with
  | nil => cases hq
  | cons p r =>
    cases ns with
    | nil => cases e2
    | cons n s =>
      rw [List.map_cons, List.map_cons] at e2
      exact V.noConfusion (List.cons.inj e2).1
def sp_law (K : PySem.W.Frag) : Sp := fun vs H Q _ => ∃ a ns, vs = [.ref a] ∧ SqL K H a ((ns : List Int).map V.int) ∧ ScriptOk ns ∧ ∀ H', Q (.bl true) H'
def t_law (K : PySem.W.Frag) (C : Ad) : TS := (tSeq (tFor (iRng1 (tCons (tC (.int 4)) tNil)) (gName 1) (tSeq (tAsg (tCall (sp_l_grid K) [] E0 (tCons (tCall (sp_l_number K) [] E0 (tCons (tCB (rSum K) (tCons (tSl (rSlL K) (tVar 0) tNoPart (tPart (tC (.int 63)))) tNil)) (tCons (tOp oAdd (tVar 1) (tC (.int 1))) (tCons (tC (.int 5)) tNil)))) (tCons (tC (.int 36)) tNil))) (gName 2))
      (tSeq (tAsg (tCall (sp_l_cells K) [] E0 (tCons (tVar 0) (tCons (tVar 1) (tCons (tVar 2) tNil)))) (gName 3))
      (tSeq (tAsg (tCB (rListS K) (tCons (tVar 3) tNil)) (gName 4))
      (tFor (iRng1 (tCons (tC (.int 2)) tNil)) (gName 5) (tSeq (tAsg (tCall (sp_numbers K C) [] E0 (tCons (tVar 2) (tCons (tVar 4) tNil))) (gName 6))
      (tSeq (tIfS (tOr (tNot (tB (tCB (rIsi K) (tCons (tVar 6) (tCons (tC (.ty "list")) tNil))))) (tOr (tTest (tOp (rNeD K) (tVar 6) (tCall (sp_l_numbers K) [] E0 (tCons (tVar 2) (tCons (tVar 3) tNil))))) (tTest (tOp (rNeD K) (tVar 4) (tVar 3))))) (tRet (tC (.bl false))) tNext)
      (tSeq (tFor (iList K (tVar 6)) (gName 7) (tSeq (tIfS (tOr (tNot (tB (tCB (rIsi K) (tCons (tVar 7) (tCons (tC (.ty "list")) tNil))))) (tNot (tB (tCB (rAll K) (tCons (tLc (iList K (tVar 7)) (gName 8) tYes (tCall (sp_l_whole K) [] E0 (tCons (tVar 8) tNil)) [8]) tNil))))) (tRet (tC (.bl false))) tNext)
      (tDrop (tBM K "list" rAppend (tVar 7) (tCons (tC (.int 0)) tNil)))))
      (tDrop (tBM K "list" rAppend (tVar 6) (tCons (tLst tNil) tNil)))))))))))
      (tRet (tAndV (tOp (rEqD K) (tCall (sp_numbers K C) [] E0 (tCons (tTup (tCons (tC (.int 2)) (tCons (tC (.int 2)) tNil))) (tCons (tLst (tCons (tC (.int 0)) tNil)) tNil))) (tLst (tCons (tLst (tCons (tC (.int 4)) (tCons (tC (.int 1)) tNil))) (tCons (tLst (tCons (tC (.int 1)) (tCons (tC (.int 0)) tNil))) tNil)))) (tOp (rEqD K) (tCall (sp_numbers K C) [] E0 (tCons (tTup (tCons (tC (.int 1)) (tCons (tC (.int 3)) tNil))) (tCons (tLst (tCons (tC (.int 0)) (tCons (tC (.int 1)) tNil))) tNil))) (tLst (tCons (tLst (tCons (tC (.int 3)) (tCons (tC (.int 3)) (tCons (tC (.int 1)) tNil)))) tNil))))))
theorem all_whole {K : PySem.W.Frag} {H : Hp} {q : Addr} {ns : List Int} {y0 y1 y2 y3 y4 y5 y6 : Option V} (hs : SqL K H q (ns.map V.int)) (hl : ns.length ≤ 1000) :
    Ev (tCB (rAll K) (tCons (tLc (iList K (tVar 7)) (gName 8) tYes (tCall (sp_l_whole K) [] E0 (tCons (tVar 8) tNil)) [8]) tNil)) [y0, y1, y2, y3, y4, y5, y6, some (.ref q), none] H (.bl true) := by
  have l := el_lcI (K := K) (σ := [y0, y1, y2, y3, y4, y5, y6, some (.ref q), none]) (H := H) (ns := ns) (j := 8) (vs := [8]) (tl := tVar 7) (t := tYes) (te := tCall (sp_l_whole K) [] E0 (tCons (tVar 8) tNil)) (fun _ => true) (fun _ => V.bl true) (es_of (ev_var rfl) hs) (by omega) (fun _ => rfl) (fun _ _ _ _ => et_yes) (fun n H1 e1 _ _ => ev_is_whole (ea_cons (ev_var rfl) ea_nil) (known_int n))
  have e : ((ns.filter fun _ => true).map fun _ => V.bl true) = (ns.map fun _ => true).map V.bl := by
    rw [filter_yes, List.map_map]
    rfl
  rw [e] at l
  have z := ev_allS (K := K) (es_new (K := K) l)
  rw [List.all_map] at z
  exact ev_is z (by rw [List.all_eq_true.mpr]; intro x _; rfl)
theorem ev_lit {K : PySem.W.Frag} {C : Ad} {σ : L2.St} {H : Hp} {ta tb tr : TE} {h w : Nat} {cs : List Int} {nss : List (List Int)} (gk : GOk h w) (ck : COk h w cs) (hg : EvST K ta σ H [.int (h : Int), .int (w : Int)]) (hc : EvS K tb σ H (cs.map V.int)) (hr : EvD K tr σ H (dII nss)) (he : numbersOf h w cs = nss) :
    Ev (tOp (rEqD K) (tCall (sp_numbers K C) [] E0 (tCons ta (tCons tb tNil))) tr) σ H (.bl true) := by
  subst he
  refine ev_is (ev_eqD (d := dII (numbersOf h w cs)) ?_ hr (shaped_rows _) (shaped_rows _)) (by rw [eqv_rows])
  intro H1 e1 Q q
  refine hg H1 e1 _ fun g H2 e2 hg2 => hc H2 (e1.trans e2) _ fun c H3 e3 hc3 => ?_
  exact ⟨_, _, rfl, .inr ⟨g, h, w, rfl, ex_t e3 hg2, gk, .inr ⟨c, cs, rfl, hc3, ck, fun v H4 e4 z => q v H4 ((e2.trans e3).trans e4) z.dp⟩⟩⟩
theorem ed_row {K : PySem.W.Frag} {σ : L2.St} {H : Hp} {ta : TA} {ns : List Int} (h : EvA ta σ H (ns.map V.int)) (hl : ns.length ≤ 1000) : EvD K (tLst ta) σ H (dI ns) := ed_ints (es_new (el_lst h (by rw [List.length_map]; omega)))
def EvAD (K : PySem.W.Frag) (ta : TA) (σ : L2.St) (H : Hp) (ds : List PyData) : Prop := ∀ H1, Ex H H1 → ∀ Q : List V → Hp → Prop, (∀ vs H2, Ex H1 H2 → DpAll K H2 vs ds → Q vs H2) → ta σ H1 Q
theorem ead_nil {K : PySem.W.Frag} {σ : L2.St} {H : Hp} : EvAD K tNil σ H [] := fun H1 _ _ q => q [] H1 (Ex.refl H1) .nil
theorem ead_cons {K : PySem.W.Frag} {σ : L2.St} {H : Hp} {ta : TE} {tr : TA} {d : PyData} {ds : List PyData} (h : EvD K ta σ H d) (hr : EvAD K tr σ H ds) : EvAD K (tCons ta tr) σ H (d :: ds) := fun H1 e _ q =>
  h H1 e _ fun v H2 e2 hv => hr H2 (e.trans e2) _ fun vs H3 e3 hs => q (v :: vs) H3 (e2.trans e3) (.cons (Dp.mono e3 hv) hs)
theorem ed_lst {K : PySem.W.Frag} {σ : L2.St} {H : Hp} {ta : TA} {ds : List PyData} (h : EvAD K ta σ H ds) (hl : ds.length ≤ 1000) : EvD K (tLst ta) σ H (.list ds) := fun H1 e Q q =>
  h H1 e _ fun vs H2 e2 hs => ⟨sz_of (by rw [dpAll_len hs]; omega), fun p hp => q _ _ (e2.trans (Ex.new hp)) (.lst (sq_of upd_same) (DpAll.mono (Ex.new hp) hs))⟩
theorem cok_by {h w : Nat} {cs : List Int} (d : (decide (cs ≠ []) && (cs.all fun x => decide (0 ≤ x ∧ x < (h : Int) * w)) && !falls cs) = true) : COk h w cs := by
  simp only [Bool.and_eq_true, decide_eq_true_eq, List.all_eq_true, Bool.not_eq_true'] at d
  exact ⟨d.1.1, fun x hx => d.1.2 x hx, (falls_rising cs).mp d.2⟩
theorem pure_law {K : PySem.W.Frag} {C : Ad} {vs : List V} {H : Hp} {Q : VK} {E : XK} {D : Ends} (hD : D.rt = Q) {N : List Str} (hN : N.length = 9) (h : sp_law K vs H Q E) : t_law K C D (start N vs) H := by
  obtain ⟨a, ns, rfl, hn, sk, q⟩ := h
  subst hD
  rw [start_eq hN]
  change t_law K C D [some (.ref a), none, none, none, none, none, none, none, none] H
  have sb : Bits (ns.take 63).sum := by
    have := sum_bits (ns := ns.take 63) (b := 0) (by rw [List.length_take]; omega) (fun z hz => sk.2 z (List.mem_of_mem_take hz)) (by decide)
    rw [Int.add_zero] at this
    exact this
  refine q_forR1 (j := 1) (n := 4) (ea_cons ev_c ea_nil) ⟨by decide, by decide⟩ (fun i σ' H' => ∃ y1 y2 y3 y4 y5 y6 y7, σ' = [some (.ref a), y1, y2, y3, y4, y5, y6, y7, none] ∧ Ex H H') (fun H1 e1 => ⟨_, _, _, _, _, _, _, rfl, e1⟩) (fun i σ' H1 hi hP => ?_) (fun σ' H1 hP => ?_)
  · obtain ⟨y1, y2, y3, y4, y5, y6, y7, rfl, e1⟩ := hP
    have hn1 := ex_l e1 hn
    have sl := el_sl (K := K) (te := tVar 0) (σ := [some (.ref a), some (.int (i : Int)), y2, y3, y4, y5, y6, y7, none]) (H := H1) (hi := some 63) (ev_var (i := 0) rfl) eo_none (eo_some ev_c) hn1
    rw [show (some (63 : Int)) = some ((63 : Nat) : Int) from rfl, cutTo, ← List.map_take] at sl
    have num := ev_l_number (K := K) (E := E0) (ea_cons (ev_sumS (K := K) (es_new sl)) (ea_cons (ta := tOp oAdd (tVar 1) (tC (.int 1))) (x := .int ((i : Int) + 1)) (by walk_at "ev") (ea_cons (ev_c (v := .int 5)) ea_nil))) sb (by omega) (by omega) (Bits.small (by decide))
    refine q_asgU (i := 2) (eu_l_grid (K := K) (most := 36) (ea_cons num (ea_cons ev_c ea_nil)) (by decide) (by decide)) fun g H2 hg e2 h2 => ?_
    obtain ⟨gk, _⟩ := lGrid_ok (lNumber (ns.take 63).sum ((i : Int) + 1) 5) (most := 36) (by decide)
    generalize (lGrid (lNumber (ns.take 63).sum ((i : Int) + 1) 5) 36).1 = h at *
    generalize (lGrid (lNumber (ns.take 63).sum ((i : Int) + 1) 5) 36).2 = w at *
    have hs2 : SqT K H2 g [.int (h : Int), .int (w : Int)] := st_of h2
    refine q_asgL (i := 3) (el_l_cells (K := K) (b := (i : Int)) (ea_cons (ev_var rfl) (ea_cons (ev_var rfl) (ea_cons (ev_var rfl) ea_nil))) (ex_l e2 hn1) sk (by omega) (by omega) hs2 gk) fun c H3 hc e3 h3 => ?_
    have ck := lCells_ok ns (i : Int) gk
    generalize lCells ns (i : Int) h w = cs at *
    have cl := cok_len gk ck
    refine q_asgL (i := 4) (el_listS (K := K) (ta := tVar 3) (es_of (ev_var rfl) (sq_of h3))) fun hd H4 hhd e4 h4 => ?_
    have hs4 := ex_t (e3.trans e4) hs2
    have hc4 := e4 _ _ h3
    refine s_forR1 (j := 5) (n := 2) (ea_cons ev_c ea_nil) ⟨by decide, by decide⟩ (fun k σ' H' => ∃ y5 y6 y7, σ' = [some (.ref a), some (.int (i : Int)), some (.ref g), some (.ref c), some (.ref hd), y5, y6, y7, none] ∧ Ex H4 H') (fun H5 e5 => ⟨_, _, _, rfl, e5⟩) (fun k σ' H5 hk hP => ?_) (fun σ' H5 hP => ?_)
    · obtain ⟨y5, y6, y7, rfl, e5⟩ := hP
      have hs5 := ex_t e5 hs4
      have hd5 : SqL K H5 hd (cs.map V.int) := sq_of (e5 _ _ h4)
      have hc5 : SqL K H5 c (cs.map V.int) := sq_of (e5 _ _ hc4)
      refine q_asgP (i := 6) (ep_numbers (K := K) (C := C) (ea_cons (ev_var rfl) (ea_cons (ev_var rfl) ea_nil)) hs5 gk hd5 ck) fun v H6 e6 hv => ?_
      have hs6 := ex_t e6 hs5
      have hd6 := ex_l e6 hd5
      have hc6 := ex_l e6 hc5
      have dv : Dp K H6 v (dII (numbersOf h w cs)) := hv.dp
      obtain ⟨p, ps, rfl, hp, h6, hps⟩ := hv
      have ln := ep_l_numbers (K := K) (E := E0) (H := H6) (σ := [some (.ref a), some (.int (i : Int)), some (.ref g), some (.ref c), some (.ref hd), some (.int (k : Int)), some (.ref p), y7, none]) (ta := tCons (tVar 2) (tCons (tVar 3) tNil)) (ea_cons (ev_var rfl) (ea_cons (ev_var rfl) ea_nil)) hs6 gk hc6
      rw [lNumbers_eq gk cs] at ln
      have t1 : EvT (tOr (tNot (tB (tCB (rIsi K) (tCons (tVar 6) (tCons (tC (.ty "list")) tNil))))) (tOr (tTest (tOp (rNeD K) (tVar 6) (tCall (sp_l_numbers K) [] E0 (tCons (tVar 2) (tCons (tVar 3) tNil))))) (tTest (tOp (rNeD K) (tVar 4) (tVar 3))))) [some (.ref a), some (.int (i : Int)), some (.ref g), some (.ref c), some (.ref hd), some (.int (k : Int)), some (.ref p), y7, none] H6 false := by
        refine et_is (et_or (et_not (et_B (ev_isiList (K := K) (n := "list") (ev_var rfl) ⟨ty_list (sq_of h6), by decide⟩))) (fun _ => et_or (et_test (ev_neD (ed_of (ev_var rfl) dv) (ed_p ln fun _ _ _ z => z.dp) (shaped_rows _) (shaped_rows _))) (fun _ => et_test (ev_neD (ed_ints (es_of (ev_var rfl) hd6)) (ed_ints (es_of (ev_var rfl) hc6)) (shaped_ints _) (shaped_ints _))))) ?_
        rw [eqv_rows, eqv_ints]
        rfl
      refine q_when t1 (fun z => nomatch z) (fun _ H7 e7 => ?_)
      have lw := gk.2.2.2
      have r7 : Rows H7 6 ps := fun q hq => by
        obtain ⟨xs, hx, hq2⟩ := paired_mem hps hq
        obtain ⟨ns', hns, rfl⟩ := List.mem_map.mp hx
        exact ⟨ns', e7 _ _ hq2.2, by rw [numbersOf_rows hns]; exact lw⟩
      have f7 : ∀ q ∈ ps, H5 q = none := fun q hq => by
        obtain ⟨xs, hx, hq2⟩ := paired_mem hps hq
        exact hq2.1
      have pl : ps.length ≤ 6 := by
        have := Paired.length hps
        unfold ints2 numbersOf at this
        rw [List.length_map, List.length_map, List.length_range] at this
        rw [this]
        exact gk.2.1
      have b7 : Ex H5 H7 := e6.trans e7
      refine q_forLn (K := K) (j := 7) (xs := ps.map V.ref) (a := p) (ev_var rfl) (sq_of (e7 _ _ h6)) (fun n σ' H' => ∃ y7, σ' = [some (.ref a), some (.int (i : Int)), some (.ref g), some (.ref c), some (.ref hd), some (.int (k : Int)), some (.ref p), y7, none] ∧ Ex H5 H' ∧ H' p = some (.lst (ps.map V.ref)) ∧ Rows H' (6 + n) ps) (fun H8 e8 => ⟨_, rfl, b7.trans e8, e8 _ _ (e7 _ _ h6), fun q hq => by
          obtain ⟨ns', h1, h2⟩ := r7 q hq
          exact ⟨ns', e8 _ _ h1, by omega⟩⟩) (fun n σ' H' hn hP => by
          obtain ⟨_, _, _, h8, _⟩ := hP
          exact sq_of h8) (fun n x σ' H8 hx hP => ?_) (fun σ' H8 hP => ?_)
      · obtain ⟨y7, rfl, e8, h8, r8⟩ := hP
        have hnl : n < ps.length := by
          have := (List.getElem?_eq_some_iff.mp hx).1
          rw [List.length_map] at this
          exact this
        rw [List.getElem?_map] at hx
        obtain ⟨qq, hqq, rfl⟩ := Option.map_eq_some_iff.mp hx
        have hm : qq ∈ ps := List.mem_of_getElem? hqq
        obtain ⟨ms, hms, hml⟩ := r8 qq hm
        have t2 : EvT (tOr (tNot (tB (tCB (rIsi K) (tCons (tVar 7) (tCons (tC (.ty "list")) tNil))))) (tNot (tB (tCB (rAll K) (tCons (tLc (iList K (tVar 7)) (gName 8) tYes (tCall (sp_l_whole K) [] E0 (tCons (tVar 8) tNil)) [8]) tNil))))) [some (.ref a), some (.int (i : Int)), some (.ref g), some (.ref c), some (.ref hd), some (.int (k : Int)), some (.ref p), some (.ref qq), none] H8 false :=
          et_is (et_or (et_not (et_B (ev_isiList (K := K) (n := "list") (ev_var rfl) ⟨ty_list (sq_of hms), by decide⟩))) (fun _ => et_not (et_B (all_whole (sq_of hms) (by omega))))) rfl
        refine q_when t2 (fun z => nomatch z) (fun _ H9 e9 => ?_)
        refine s_app (K := K) (l := qq) (v := .int 0) (e9 _ _ hms) (ev_var rfl) ev_c (by rw [List.length_map]; omega) fun H10 e10 => ⟨_, rfl, Ex.mut ((e8.trans e9).trans e10) (f7 qq hm), ?_, fun q' hq' => ?_⟩
        · have ne : p ≠ qq := ne_of h8 hms (refs_ne_ints hm)
          rw [upd_ne ne]
          exact e10 _ _ (e9 _ _ h8)
        · by_cases hq2 : q' = qq
          · subst hq2
            refine ⟨ms ++ [0], ?_, by rw [List.length_append]; simp; omega⟩
            rw [upd_same, List.map_append]
            rfl
          · obtain ⟨ns', h1, h2⟩ := r8 q' hq'
            exact ⟨ns', by rw [upd_ne hq2]; exact e10 _ _ (e9 _ _ h1), by omega⟩
      · obtain ⟨y7, rfl, e8, h8, r8⟩ := hP
        refine s_appL (K := K) (l := p) (ys := []) h8 (ev_var rfl) (el_lst ea_nil (by simp)) (by rw [List.length_map]; omega) fun p9 H9 hp9 e9 h9 => ⟨_, _, _, rfl, ?_⟩
        exact (e5).trans (Ex.mut (e8.trans e9) hp)
    · obtain ⟨y5, y6, y7, rfl, e5⟩ := hP
      exact ⟨_, _, _, _, _, _, _, rfl, (((e1.trans e2).trans e3).trans e4).trans e5⟩
  · obtain ⟨y1, y2, y3, y4, y5, y6, y7, rfl, e1⟩ := hP
    refine s_ret (v := .bl true) (ev_is (ev_andV (a := true) (b := true) ?_ (fun _ => ?_)) rfl) fun H2 e2 => q H2
    · refine ev_lit (h := 2) (w := 2) (cs := [0]) (nss := [[4, 1], [1, 0]]) ⟨by decide, by decide, by decide, by decide⟩ (cok_by (by decide)) (est_new (eu_tup (ea_cons ev_c (ea_cons ev_c ea_nil)) (by simp))) (es_new (el_lst (ea_cons ev_c ea_nil) (by simp))) ?_ (by decide)
      exact ed_lst (ead_cons (ed_row (ns := [4, 1]) (ea_cons ev_c (ea_cons ev_c ea_nil)) (by simp)) (ead_cons (ed_row (ns := [1, 0]) (ea_cons ev_c (ea_cons ev_c ea_nil)) (by simp)) ead_nil)) (by simp)
    · refine ev_lit (h := 1) (w := 3) (cs := [0, 1]) (nss := [[3, 3, 1]]) ⟨by decide, by decide, by decide, by decide⟩ (cok_by (by decide)) (est_new (eu_tup (ea_cons ev_c (ea_cons ev_c ea_nil)) (by simp))) (es_new (el_lst (ea_cons ev_c (ea_cons ev_c ea_nil)) (by simp))) ?_ (by decide)
      exact ed_lst (ead_cons (ed_row (ns := [3, 3, 1]) (ea_cons ev_c (ea_cons ev_c (ea_cons ev_c ea_nil))) (by simp)) ead_nil) (by simp)

/-! ### the text -/
def topS (i : Nat) : Stmt := PySem.Challenge.pw_sidering_k01_numbers.main.body.getD i (.Pass ⟨0, 0, 0, 0⟩)
abbrev s_l_grid : Stmt := topS 17
theorem sc_l_grid : FnScope ["_law_number_here", "_law_most", "_law_high", "_law_wide"] ["_law_number_here", "_law_most"] (defScope s_l_grid) := ⟨rfl, rfl, rfl, by decide +kernel, rfl, by decide +kernel, by decide +kernel⟩
abbrev s_l_number : Stmt := topS 14
theorem sc_l_number : FnScope ["_law_cell", "_law_at", "_law_whole_here", "_law_mixed", "_law_more"] ["_law_cell", "_law_at", "_law_whole_here"] (defScope s_l_number) := ⟨rfl, rfl, rfl, by decide +kernel, rfl, by decide +kernel, by decide +kernel⟩
abbrev s_l_cells : Stmt := topS 16
theorem sc_l_cells : FnScope ["_law_script", "_law_by", "_law_grid_here", "_law_drawn", "_law_whole_here", "_law_many", "_law_found", "_law_at", "_law_number_here", "_law_cell"] ["_law_script", "_law_by", "_law_grid_here"] (defScope s_l_cells) := ⟨rfl, rfl, rfl, by decide +kernel, rfl, by decide +kernel, by decide +kernel⟩
abbrev s_is_whole : Stmt := topS 6
theorem sc_is_whole : FnScope ["thing"] ["thing"] (defScope s_is_whole) := ⟨rfl, rfl, rfl, by decide +kernel, rfl, by decide +kernel, by decide +kernel⟩
abbrev s_check_grid : Stmt := topS 7
theorem sc_check_grid : FnScope ["grid", "one"] ["grid"] (defScope s_check_grid) := ⟨rfl, rfl, rfl, by decide +kernel, rfl, by decide +kernel, by decide +kernel⟩
abbrev s_check_cells : Stmt := topS 8
theorem sc_check_cells : FnScope ["grid", "cells", "many", "one", "other"] ["grid", "cells"] (defScope s_check_cells) := ⟨rfl, rfl, rfl, by decide +kernel, rfl, by decide +kernel, by decide +kernel⟩
abbrev s_beside : Stmt := topS 9
theorem sc_beside : FnScope ["grid", "cell", "high", "wide", "found"] ["grid", "cell"] (defScope s_beside) := ⟨rfl, rfl, rfl, by decide +kernel, rfl, by decide +kernel, by decide +kernel⟩
abbrev s_sides_of : Stmt := topS 10
theorem sc_sides_of : FnScope ["grid", "cells", "cell", "near", "one"] ["grid", "cells", "cell"] (defScope s_sides_of) := ⟨rfl, rfl, rfl, by decide +kernel, rfl, by decide +kernel, by decide +kernel⟩
abbrev s_numbers_of : Stmt := topS 11
theorem sc_numbers_of : FnScope ["grid", "cells", "high", "wide", "row", "at"] ["grid", "cells"] (defScope s_numbers_of) := ⟨rfl, rfl, rfl, by decide +kernel, rfl, by decide +kernel, by decide +kernel⟩
abbrev s_numbers : Stmt := topS 12
theorem sc_numbers : FnScope ["grid", "cells"] ["grid", "cells"] (defScope s_numbers) := ⟨rfl, rfl, rfl, by decide +kernel, rfl, by decide +kernel, by decide +kernel⟩
abbrev s_l_beside : Stmt := topS 18
theorem sc_l_beside : FnScope ["_law_grid_here", "_law_cell", "_law_row", "_law_at", "_law_spots", "_law_one", "_law_two"] ["_law_grid_here", "_law_cell"] (defScope s_l_beside) := ⟨rfl, rfl, rfl, by decide +kernel, rfl, by decide +kernel, by decide +kernel⟩
abbrev s_l_numbers : Stmt := topS 19
theorem sc_l_numbers : FnScope ["_law_grid_here", "_law_cells_here", "_law_found", "_law_row", "_law_line", "_law_at", "_law_cell", "_law_same", "_law_beyond", "_law_one"] ["_law_grid_here", "_law_cells_here"] (defScope s_l_numbers) := ⟨rfl, rfl, rfl, by decide +kernel, rfl, by decide +kernel, by decide +kernel⟩
abbrev s_l_whole : Stmt := topS 15
theorem sc_l_whole : FnScope ["_law_found"] ["_law_found"] (defScope s_l_whole) := ⟨rfl, rfl, rfl, by decide +kernel, rfl, by decide +kernel, by decide +kernel⟩
abbrev s_law : Stmt := topS 20
theorem sc_law : FnScope ["_law_script", "_law_by", "_law_grid_here", "_law_cells_here", "_law_handed", "_law_again", "_law_found", "_law_line", "_law_one"] ["_law_script"] (defScope s_law) := ⟨rfl, rfl, rfl, by decide +kernel, rfl, by decide +kernel, by decide +kernel⟩
structure Tx (K : PySem.W.Frag) (mg : Str → Option Value) where
  C : Ad
  f_l_grid : Addr
  fd_l_grid : FuncData
  F_l_grid : Fun K "_law_grid" "_law_grid" s_l_grid f_l_grid fd_l_grid
  g_l_grid : mg "_law_grid" = some (.ref f_l_grid)
  b_l_grid : Binds K fd_l_grid ["_law_number_here", "_law_most"] []
  f_l_number : Addr
  fd_l_number : FuncData
  F_l_number : Fun K "_law_number" "_law_number" s_l_number f_l_number fd_l_number
  g_l_number : mg "_law_number" = some (.ref f_l_number)
  b_l_number : Binds K fd_l_number ["_law_cell", "_law_at", "_law_whole_here"] []
  f_l_cells : Addr
  fd_l_cells : FuncData
  F_l_cells : Fun K "_law_cells" "_law_cells" s_l_cells f_l_cells fd_l_cells
  g_l_cells : mg "_law_cells" = some (.ref f_l_cells)
  b_l_cells : Binds K fd_l_cells ["_law_script", "_law_by", "_law_grid_here"] []
  f_is_whole : Addr
  fd_is_whole : FuncData
  F_is_whole : Fun K "is_whole" "is_whole" s_is_whole f_is_whole fd_is_whole
  g_is_whole : mg "is_whole" = some (.ref f_is_whole)
  b_is_whole : Binds K fd_is_whole ["thing"] []
  f_check_grid : Addr
  fd_check_grid : FuncData
  F_check_grid : Fun K "check_grid" "check_grid" s_check_grid f_check_grid fd_check_grid
  g_check_grid : mg "check_grid" = some (.ref f_check_grid)
  b_check_grid : Binds K fd_check_grid ["grid"] []
  f_check_cells : Addr
  fd_check_cells : FuncData
  F_check_cells : Fun K "check_cells" "check_cells" s_check_cells f_check_cells fd_check_cells
  g_check_cells : mg "check_cells" = some (.ref f_check_cells)
  b_check_cells : Binds K fd_check_cells ["grid", "cells"] []
  f_beside : Addr
  fd_beside : FuncData
  F_beside : Fun K "beside" "beside" s_beside f_beside fd_beside
  g_beside : mg "beside" = some (.ref f_beside)
  b_beside : Binds K fd_beside ["grid", "cell"] []
  f_sides_of : Addr
  fd_sides_of : FuncData
  F_sides_of : Fun K "sides_of" "sides_of" s_sides_of f_sides_of fd_sides_of
  g_sides_of : mg "sides_of" = some (.ref f_sides_of)
  b_sides_of : Binds K fd_sides_of ["grid", "cells", "cell"] []
  f_numbers_of : Addr
  fd_numbers_of : FuncData
  F_numbers_of : Fun K "numbers_of" "numbers_of" s_numbers_of f_numbers_of fd_numbers_of
  g_numbers_of : mg "numbers_of" = some (.ref f_numbers_of)
  b_numbers_of : Binds K fd_numbers_of ["grid", "cells"] []
  f_numbers : Addr
  fd_numbers : FuncData
  F_numbers : Fun K "numbers" "numbers" s_numbers f_numbers fd_numbers
  g_numbers : mg "numbers" = some (.ref f_numbers)
  b_numbers : Binds K fd_numbers ["grid", "cells"] []
  f_l_beside : Addr
  fd_l_beside : FuncData
  F_l_beside : Fun K "_law_beside" "_law_beside" s_l_beside f_l_beside fd_l_beside
  g_l_beside : mg "_law_beside" = some (.ref f_l_beside)
  b_l_beside : Binds K fd_l_beside ["_law_grid_here", "_law_cell"] []
  f_l_numbers : Addr
  fd_l_numbers : FuncData
  F_l_numbers : Fun K "_law_numbers" "_law_numbers" s_l_numbers f_l_numbers fd_l_numbers
  g_l_numbers : mg "_law_numbers" = some (.ref f_l_numbers)
  b_l_numbers : Binds K fd_l_numbers ["_law_grid_here", "_law_cells_here"] []
  f_l_whole : Addr
  fd_l_whole : FuncData
  F_l_whole : Fun K "_law_whole" "_law_whole" s_l_whole f_l_whole fd_l_whole
  g_l_whole : mg "_law_whole" = some (.ref f_l_whole)
  b_l_whole : Binds K fd_l_whole ["_law_found"] []
  f_law : Addr
  fd_law : FuncData
  F_law : Fun K "law" "law" s_law f_law fd_law
  g_law : mg "law" = some (.ref f_law)
  b_law : Binds K fd_law ["_law_script"] []
  n_sum : mg "sum" = none
  n_range : mg "range" = none
  n_len : mg "len" = none
  n_isinstance : mg "isinstance" = none
  n_int : mg "int" = none
  n_bool : mg "bool" = none
  n_tuple : mg "tuple" = none
  n_all : mg "all" = none
  k_MOST : Tok
  g_MOST : mg "MOST" = some (.int 6 k_MOST)
  g_BadGrid : mg "BadGrid" = some (.ref C.cBadGrid)
  x_BadGrid : PySem.W.excIn K C.cBadGrid [.type "ValueError", .type "Exception", .type "BaseException", .type "object"] "ValueError.__new__" = true
  k_BadGrid : PySem.W.keepIn K (.ref C.cBadGrid) = true
  e_BadGrid : PySem.W.subIn K (.ref C.cBadGrid) (.type "BaseException") = some true
  y_BadGrid : PySem.W.typeIn K (.ref C.cBadGrid) = some (.type "type")
  n_list : mg "list" = none
  g_BadCells : mg "BadCells" = some (.ref C.cBadCells)
  x_BadCells : PySem.W.excIn K C.cBadCells [.type "ValueError", .type "Exception", .type "BaseException", .type "object"] "ValueError.__new__" = true
  k_BadCells : PySem.W.keepIn K (.ref C.cBadCells) = true
  e_BadCells : PySem.W.subIn K (.ref C.cBadCells) (.type "BaseException") = some true
  y_BadCells : PySem.W.typeIn K (.ref C.cBadCells) = some (.type "type")
  n_any : mg "any" = none
  n_zip : mg "zip" = none
section
variable {P : Program} {w : World} {K : PySem.W.Frag} {mg : Str → Option Value} {base : Heap}
set_option maxHeartbeats 4000000 in
theorem ok_l_grid (T : Tx K mg) : FnOk P w K mg base CX0 1 T.f_l_grid T.fd_l_grid ["_law_number_here", "_law_most"] (sp_l_grid K) := by
  refine T.F_l_grid.ok sc_l_grid (fun vs H Q E h => by obtain ⟨_, _, rfl, _⟩ := h; rfl) (fun cdv A outer s H vs Q E hr h => ⟨t_l_grid K, ?_, pure_l_grid rfl rfl h⟩)
  exact (pss_cons (ps_par (i := 2) (j := 3) (by rfl) sc_l_grid.nd rfl rfl (by decide) rfl rfl (pa_cons (pe_op op_add pe_int (pe_op op_mod (pv 0) pe_int)) (pa_cons (pe_op op_add pe_int (pe_op op_mod (pe_op op_fdiv (pv 0) pe_int) pe_int)) pa_nil)) (by rfl))
      (pss_cons (ps_while PassesOwn.never (pt_cmpR op_gt (pe_op op_mul (pv 2) (pv 3)) (pv 1) (nomark _)) (pss_one (ps_asg (pe_ifExp (pt_cmpR op_gt (pv 2) (pv 3) (nomark _)) (pe_tup (pa_cons (pe_op op_sub (pv 2) pe_int) (pa_cons (pv 3) pa_nil))) (pe_tup (pa_cons (pv 2) (pa_cons (pe_op op_sub (pv 3) pe_int) pa_nil)))) (pg_tup rfl (pgs_cons (pg_name (i := 2) sc_l_grid.nd rfl (.inl rfl)) (pgs_cons (pg_name (i := 3) sc_l_grid.nd rfl (.inl rfl)) pgs_nil))))))
      (pss_one (ps_ret (pe_tup (pa_cons (pv 2) (pa_cons (pv 3) pa_nil)))))))
set_option maxHeartbeats 4000000 in
theorem ok_l_number (T : Tx K mg) : FnOk P w K mg base CX0 1 T.f_l_number T.fd_l_number ["_law_cell", "_law_at", "_law_whole_here"] (sp_l_number K) := by
  refine T.F_l_number.ok sc_l_number (fun vs H Q E h => by obtain ⟨_, _, _, rfl, _⟩ := h; rfl) (fun cdv A outer s H vs Q E hr h => ⟨t_l_number K, ?_, pure_l_number rfl rfl h⟩)
  exact (pss_cons (ps_if (pt_cmpR op_ge (pv 0) (pe_op op_pow pe_int pe_int) (nomark _)) (pss_one (ps_ret (pv 0))) pss_nil)
      (pss_cons (ps_set (i := 3) sc_l_number.nd rfl (.inl rfl) (pe_op op_mod (pe_op op_add (pe_op op_mul (pe_op op_add (pv 0) (pe_op op_mul pe_int (pv 1))) pe_int) (pv 2)) pe_int))
      (pss_cons (ps_set (i := 4) sc_l_number.nd rfl (.inl rfl) (pe_op op_mulX (pe_op op_mul (pv 3) (pe_op op_add (pe_op op_add (pv 3) (pe_op op_mul pe_int (pv 1))) pe_int)) (pe_op op_add (pe_op op_add (pv 3) (pv 0)) pe_int)))
      (pss_one (ps_ret (pe_op op_fdiv (pe_op op_mulX (pv 4) (pe_op op_add (pv 4) pe_int)) pe_int))))))
set_option maxHeartbeats 4000000 in
theorem ok_l_cells (T : Tx K mg) : FnOk P w K mg base CX0 2 T.f_l_cells T.fd_l_cells ["_law_script", "_law_by", "_law_grid_here"] (sp_l_cells K) := by
  refine T.F_l_cells.ok sc_l_cells (fun vs H Q E h => by obtain ⟨_, _, _, _, _, _, rfl, _⟩ := h; rfl) (fun cdv A outer s H vs Q E hr h => ⟨t_l_cells K, ?_, pure_l_cells rfl rfl h⟩)
  exact (pss_cons (ps_set (i := 3) sc_l_cells.nd rfl (.inl rfl) (pe_ifExp (pt_cmpR (op_neD hr.units) (pv 0) (pe_lst pa_nil) (nomark _)) (pe_slice sl_list (pv 0) po_none (po_some pe_int)) (pe_lst (pa_cons pe_int pa_nil))))
      (pss_cons (ps_set (i := 4) sc_l_cells.nd rfl (.inr rfl) (pe_op op_add (pe_callB (cr_sum rfl) (by rfl) T.n_sum (by decide +kernel) (pa_cons (pv 3) pa_nil)) (pv 1)))
      (pss_cons (ps_par (i := 5) (j := 6) (by rfl) sc_l_cells.nd rfl rfl (by decide) rfl rfl (pa_cons (pe_op op_mul (pe_ix ix_tup (pv 2) pe_int (fun _ _ => rfl)) (pe_ix ix_tup (pv 2) pe_int (fun _ _ => rfl))) (pa_cons (pe_lst pa_nil) pa_nil)) (by rfl))
      (pss_cons (ps_for PassesOwn.never rfl (pi_range1 rfl T.n_range (pa_cons (pv 5) pa_nil)) (pg_name (i := 7) sc_l_cells.nd rfl (.inl rfl)) (pss_cons (ps_set (i := 8) sc_l_cells.nd rfl (.inl rfl) (pe_op op_fdiv (pe_call (ok_l_number T) (hr.mono (by decide)) rfl T.g_l_number T.F_l_number.kp T.b_l_number .nil pass0 (pa_cons (pe_ix ix_list (pv 3) (pe_op op_mod (pe_op op_add (pv 7) (pv 1)) (pe_callB call_len_seq (by rfl) T.n_len (by decide +kernel) (pa_cons (pv 3) pa_nil))) (fun _ _ => rfl)) (pa_cons (pe_op op_add (pv 7) (pv 1)) (pa_cons (pv 4) pa_nil)))) pe_int))
      (pss_one (ps_if (pt_cmpR op_gt (pe_ix ix_tup (pe_tup (pa_cons (pe_op op_mod (pv 8) pe_int) (pa_cons (pe_op op_mod (pv 8) pe_int) (pa_cons pe_int (pa_cons (pe_op op_mod (pv 8) pe_int) pa_nil))))) (pe_op op_mod (pv 4) pe_int) (fun _ _ => rfl)) pe_int (nomark _)) (pss_one (ps_expr (pe_bm PySem.F.plainAttrs_list PySem.F.slot_list_append PySem.F.type_list_append mt_append (pv 6) (pa_cons (pv 7) pa_nil)))) pss_nil))))
      (pss_cons (ps_if (pt_cmpR op_eq (pe_op op_mod (pv 4) pe_int) pe_int (nomark _)) (pss_cons (ps_setLc (i := 6) (own := [("_law_cell", 9)]) (g := (gName 9)) (tt := (tTest (tOp oGe (tOp oDiv (tVar 9) (tOp (rIxT K) (tVar 2) (tC (.int 1)))) (tOp oMod (tOp oDiv (tVar 4) (tC (.int 4))) (tOp (rIxT K) (tVar 2) (tC (.int 0))))))) (te := (tVar 9)) rfl sc_l_cells.nd rfl rfl (sw_true rfl rfl rfl (by decide +kernel)) (pi_list (pv 6)) (blkOk_by (own := [("_law_cell", 9)]) (by kernel_rfl)) (fun _ _ _ _ _ => (pg_name (i := 9) sc_l_cells.nd rfl (.inl rfl))) (fun _ _ _ _ _ => (pts_one (pt_cmpR op_ge (pe_op op_fdiv (pv 9) (pe_ix ix_tup (pv 2) pe_int (fun _ _ => rfl))) (pe_op op_mod (pe_op op_fdiv (pv 4) pe_int) (pe_ix ix_tup (pv 2) pe_int (fun _ _ => rfl))) (nomark _)))) (fun _ _ _ _ _ => (pv 9)))
      (pss_one (ps_setLc (i := 6) (own := [("_law_cell", 9)]) (g := (gName 9)) (tt := (tTest (tOp oLe (tOp oMod (tVar 9) (tOp (rIxT K) (tVar 2) (tC (.int 1)))) (tOp oMod (tOp oDiv (tVar 4) (tC (.int 8))) (tOp (rIxT K) (tVar 2) (tC (.int 1))))))) (te := (tVar 9)) rfl sc_l_cells.nd rfl rfl (sw_true rfl rfl rfl (by decide +kernel)) (pi_list (pv 6)) (blkOk_by (own := [("_law_cell", 9)]) (by kernel_rfl)) (fun _ _ _ _ _ => (pg_name (i := 9) sc_l_cells.nd rfl (.inl rfl))) (fun _ _ _ _ _ => (pts_one (pt_cmpR op_le (pe_op op_mod (pv 9) (pe_ix ix_tup (pv 2) pe_int (fun _ _ => rfl))) (pe_op op_mod (pe_op op_fdiv (pv 4) pe_int) (pe_ix ix_tup (pv 2) pe_int (fun _ _ => rfl))) (nomark _)))) (fun _ _ _ _ _ => (pv 9))))) pss_nil)
      (pss_one (ps_ret (pe_ifExp (pt_cmpR (op_neD hr.units) (pv 6) (pe_lst pa_nil) (nomark _)) (pv 6) (pe_lst (pa_cons (pe_op op_mod (pv 4) (pv 5)) pa_nil))))))))))
set_option maxHeartbeats 4000000 in
theorem ok_is_whole (T : Tx K mg) : FnOk P w K mg base CX0 1 T.f_is_whole T.fd_is_whole ["thing"] (sp_is_whole K) := by
  refine T.F_is_whole.ok sc_is_whole (fun vs H Q E h => by obtain ⟨_, _, rfl, _⟩ := h; rfl) (fun cdv A outer s H vs Q E hr h => ⟨t_is_whole K, ?_, pure_is_whole rfl h⟩)
  exact (pss_one (ps_ret (pe_and (pe_callB call_isi (by rfl) T.n_isinstance (by decide +kernel) (pa_cons (pv 0) (pa_cons (pe_bltn (v := .ty "int") (by rfl) T.n_int (by decide +kernel) rfl) pa_nil))) (pe_one (pe_not (pe_callB call_isi (by rfl) T.n_isinstance (by decide +kernel) (pa_cons (pv 0) (pa_cons (pe_bltn (v := .ty "bool") (by rfl) T.n_bool (by decide +kernel) rfl) pa_nil))))))))
set_option maxHeartbeats 4000000 in
theorem ok_check_grid (T : Tx K mg) : FnOk P w K mg base (L2.CX P w) 2 T.f_check_grid T.fd_check_grid ["grid"] (sp_check_grid K T.C) := by
  refine T.F_check_grid.okX sc_check_grid (fun vs H Q E h => by obtain ⟨_, rfl, _⟩ := h; rfl) (fun cdv A outer s H vs Q E hr h => ⟨t_check_grid K T.C E, ?_, pure_check_grid rfl h⟩)
  exact (pss_one (ps_if (PW.pt (pw_or (pt_not (pt_val (pe_callB call_isi (by rfl) T.n_isinstance (by decide +kernel) (pa_cons (pv 0) (pa_cons (pe_bltn (v := .ty "tuple") (by rfl) T.n_tuple (by decide +kernel) rfl) pa_nil))))) (pw_or (pt_cmpR op_ne (pe_callB call_len_seq (by rfl) T.n_len (by decide +kernel) (pa_cons (pv 0) pa_nil)) pe_int (nomark _)) (pw_or1 (pt_not (pt_val (pe_callB (cr_all rfl) (by rfl) T.n_all (by decide +kernel) (pa_cons (pe_lc (own := [("one", 1)]) (g := (gName 1)) (tt := tYes) (te := (tAndV (tCall (sp_is_whole K) [] E0 (tCons (tVar 1) tNil)) (tChain oLe oLe (tC (.int 1)) (tVar 1) (tC (.int 6))))) rfl sc_check_grid.nd (pi_tup (pv 0)) (blkOk_by (own := [("one", 1)]) (by kernel_rfl)) (fun _ _ _ _ _ => (pg_name (i := 1) sc_check_grid.nd rfl (.inl rfl))) (fun _ _ _ _ _ => pts_nil) (fun _ _ _ _ _ => (pe_and (pe_call (ok_is_whole T) (hr.mono (by decide)) rfl T.g_is_whole T.F_is_whole.kp T.b_is_whole .nil pass0 (pa_cons (pv 1) pa_nil)) (pe_one (pe_chain op_le op_le pe_int (pv 1) (pe_glob rfl T.g_MOST ⟨_, rfl⟩)))))) pa_nil)))))))) (pss_one (ps_raise rfl (takes_of rfl rfl rfl rfl) (pmk_own PySem.F.excBase_ValueError T.x_BadGrid T.g_BadGrid T.k_BadGrid (raises_own T.e_BadGrid T.y_BadGrid) (by rfl)))) pss_nil))
set_option maxHeartbeats 4000000 in
theorem ok_check_cells (T : Tx K mg) : FnOk P w K mg base (L2.CX P w) 2 T.f_check_cells T.fd_check_cells ["grid", "cells"] (sp_check_cells K T.C) := by
  refine T.F_check_cells.okX sc_check_cells (fun vs H Q E h => by obtain ⟨_, _, _, _, rfl, _⟩ := h; rfl) (fun cdv A outer s H vs Q E hr h => ⟨t_check_cells K T.C E, ?_, pure_check_cells rfl h⟩)
  exact (pss_cons (ps_set (i := 2) sc_check_cells.nd rfl (.inr rfl) (pe_op op_mul (pe_ix ix_tup (pv 0) pe_int (fun _ _ => rfl)) (pe_ix ix_tup (pv 0) pe_int (fun _ _ => rfl))))
      (pss_cons (ps_if (PW.pt (pw_or (pt_not (pt_val (pe_callB call_isi (by rfl) T.n_isinstance (by decide +kernel) (pa_cons (pv 1) (pa_cons (pe_bltn (v := .ty "list") (by rfl) T.n_list (by decide +kernel) rfl) pa_nil))))) (pw_or (pt_cmpR (op_eqD hr.units) (pv 1) (pe_lst pa_nil) (nomark _)) (pw_or1 (pt_not (pt_val (pe_callB (cr_all rfl) (by rfl) T.n_all (by decide +kernel) (pa_cons (pe_lc (own := [("one", 3)]) (g := (gName 3)) (tt := tYes) (te := (tAndV (tCall (sp_is_whole K) [] E0 (tCons (tVar 3) tNil)) (tChain oLe oLt (tC (.int 0)) (tVar 3) (tVar 2)))) rfl sc_check_cells.nd (pi_list (pv 1)) (blkOk_by (own := [("one", 3)]) (by kernel_rfl)) (fun _ _ _ _ _ => (pg_name (i := 3) sc_check_cells.nd rfl (.inl rfl))) (fun _ _ _ _ _ => pts_nil) (fun _ _ _ _ _ => (pe_and (pe_call (ok_is_whole T) (hr.mono (by decide)) rfl T.g_is_whole T.F_is_whole.kp T.b_is_whole .nil pass0 (pa_cons (pv 3) pa_nil)) (pe_one (pe_chain op_le op_lt pe_int (pv 3) (pv 2)))))) pa_nil)))))))) (pss_one (ps_raise rfl (takes_of rfl rfl rfl rfl) (pmk_own PySem.F.excBase_ValueError T.x_BadCells T.g_BadCells T.k_BadCells (raises_own T.e_BadCells T.y_BadCells) (by rfl)))) pss_nil)
      (pss_one (ps_if (pt_val (pe_callB (cr_any rfl) (by rfl) T.n_any (by decide +kernel) (pa_cons (pe_lc (own := [("one", 3), ("other", 4)]) (g := (gTup K 2 (gCons (gName 3) (gCons (gName 4) gNil)))) (tt := tYes) (te := (tOp oGe (tVar 3) (tVar 4))) rfl sc_check_cells.nd (pi_zip (by rfl) T.n_zip (pa_cons (pv 1) (pa_cons (pe_slice sl_list (pv 1) (po_some pe_int) po_none) pa_nil))) (blkOk_by (own := [("one", 3), ("other", 4)]) (by kernel_rfl)) (fun _ _ _ _ _ => (pg_tup rfl (pgs_cons (pg_name (i := 3) sc_check_cells.nd rfl (.inl rfl)) (pgs_cons (pg_name (i := 4) sc_check_cells.nd rfl (.inl rfl)) pgs_nil)))) (fun _ _ _ _ _ => pts_nil) (fun _ _ _ _ _ => (pe_cmpR op_ge (pv 3) (pv 4) (nomark _)))) pa_nil))) (pss_one (ps_raise rfl (takes_of rfl rfl rfl rfl) (pmk_own PySem.F.excBase_ValueError T.x_BadCells T.g_BadCells T.k_BadCells (raises_own T.e_BadCells T.y_BadCells) (by rfl)))) pss_nil))))
set_option maxHeartbeats 4000000 in
theorem ok_beside (T : Tx K mg) : FnOk P w K mg base CX0 1 T.f_beside T.fd_beside ["grid", "cell"] (sp_beside K) := by
  refine T.F_beside.ok sc_beside (fun vs H Q E h => by obtain ⟨_, _, _, _, rfl, _⟩ := h; rfl) (fun cdv A outer s H vs Q E hr h => ⟨t_beside K, ?_, pure_beside rfl h⟩)
  exact (pss_cons (ps_asg (pv 0) (pg_tup rfl (pgs_cons (pg_name (i := 2) sc_beside.nd rfl (.inl rfl)) (pgs_cons (pg_name (i := 3) sc_beside.nd rfl (.inl rfl)) pgs_nil))))
      (pss_cons (ps_set (i := 4) sc_beside.nd rfl (.inl rfl) (pe_lst pa_nil))
      (pss_cons (ps_if (pt_cmpR op_ge (pv 1) (pv 3) (nomark _)) (pss_one (ps_expr (pe_bm PySem.F.plainAttrs_list PySem.F.slot_list_append PySem.F.type_list_append mt_append (pv 4) (pa_cons (pe_op op_sub (pv 1) (pv 3)) pa_nil)))) pss_nil)
      (pss_cons (ps_if (pt_cmpR op_gt (pe_op op_mod (pv 1) (pv 3)) pe_int (nomark _)) (pss_one (ps_expr (pe_bm PySem.F.plainAttrs_list PySem.F.slot_list_append PySem.F.type_list_append mt_append (pv 4) (pa_cons (pe_op op_sub (pv 1) pe_int) pa_nil)))) pss_nil)
      (pss_cons (ps_if (pt_cmpR op_lt (pe_op op_mod (pv 1) (pv 3)) (pe_op op_sub (pv 3) pe_int) (nomark _)) (pss_one (ps_expr (pe_bm PySem.F.plainAttrs_list PySem.F.slot_list_append PySem.F.type_list_append mt_append (pv 4) (pa_cons (pe_op op_add (pv 1) pe_int) pa_nil)))) pss_nil)
      (pss_cons (ps_if (pt_cmpR op_lt (pv 1) (pe_op op_mul (pv 3) (pe_op op_sub (pv 2) pe_int)) (nomark _)) (pss_one (ps_expr (pe_bm PySem.F.plainAttrs_list PySem.F.slot_list_append PySem.F.type_list_append mt_append (pv 4) (pa_cons (pe_op op_add (pv 1) (pv 3)) pa_nil)))) pss_nil)
      (pss_one (ps_ret (pv 4)))))))))
set_option maxHeartbeats 4000000 in
theorem ok_sides_of (T : Tx K mg) : FnOk P w K mg base CX0 2 T.f_sides_of T.fd_sides_of ["grid", "cells", "cell"] (sp_sides_of K) := by
  refine T.F_sides_of.ok sc_sides_of (fun vs H Q E h => by obtain ⟨_, _, _, _, _, _, rfl, _⟩ := h; rfl) (fun cdv A outer s H vs Q E hr h => ⟨t_sides_of K, ?_, pure_sides_of rfl h⟩)
  exact (pss_cons (ps_set (i := 3) sc_sides_of.nd rfl (.inl rfl) (pe_callB call_len_seq (by rfl) T.n_len (by decide +kernel) (pa_cons (pe_lc (own := [("one", 4)]) (g := (gName 4)) (tt := (tTest (tOp (rIn K false) (tVar 4) (tVar 1)))) (te := (tVar 4)) rfl sc_sides_of.nd (pi_list (pe_call (ok_beside T) (hr.mono (by decide)) rfl T.g_beside T.F_beside.kp T.b_beside .nil pass0 (pa_cons (pv 0) (pa_cons (pv 2) pa_nil)))) (blkOk_by (own := [("one", 4)]) (by kernel_rfl)) (fun _ _ _ _ _ => (pg_name (i := 4) sc_sides_of.nd rfl (.inl rfl))) (fun _ _ _ _ _ => (pts_one (pt_cmpR op_in_seq (pv 4) (pv 1) (by rfl)))) (fun _ _ _ _ _ => (pv 4))) pa_nil)))
      (pss_one (ps_ret (pe_ifExp (pt_cmpR op_in_seq (pv 2) (pv 1) (by rfl)) (pe_op op_sub pe_int (pv 3)) (pv 3)))))
set_option maxHeartbeats 4000000 in
theorem ok_numbers_of (T : Tx K mg) : FnOk P w K mg base CX0 3 T.f_numbers_of T.fd_numbers_of ["grid", "cells"] (sp_numbers_of K) := by
  refine T.F_numbers_of.ok sc_numbers_of (fun vs H Q E h => by obtain ⟨_, _, _, _, _, rfl, _⟩ := h; rfl) (fun cdv A outer s H vs Q E hr h => ⟨t_numbers_of K, ?_, pure_numbers_of rfl h⟩)
  exact (pss_cons (ps_asg (pv 0) (pg_tup rfl (pgs_cons (pg_name (i := 2) sc_numbers_of.nd rfl (.inl rfl)) (pgs_cons (pg_name (i := 3) sc_numbers_of.nd rfl (.inr rfl)) pgs_nil))))
      (pss_one (ps_ret (pe_lc (own := [("row", 4)]) (g := (gName 4)) (tt := tYes) (te := (tLc (iRng1 (tCons (tVar 3) tNil)) (gName 5) tYes (tCall (sp_sides_of K) [] E0 (tCons (tVar 0) (tCons (tVar 1) (tCons (tOp oAdd (tOp oMul (tVar 4) (tVar 3)) (tVar 5)) tNil)))) [5])) rfl sc_numbers_of.nd (pi_range1 rfl T.n_range (pa_cons (pv 2) pa_nil)) (blkOk_by (own := [("row", 4)]) (by kernel_rfl)) (fun _ _ _ _ _ => (pg_name (i := 4) sc_numbers_of.nd rfl (.inr rfl))) (fun _ _ _ _ _ => pts_nil) (fun _ _ _ _ _ => (pe_lc (own := [("at", 5)]) (g := (gName 5)) (tt := tYes) (te := (tCall (sp_sides_of K) [] E0 (tCons (tVar 0) (tCons (tVar 1) (tCons (tOp oAdd (tOp oMul (tVar 4) (tVar 3)) (tVar 5)) tNil))))) rfl sc_numbers_of.nd (pi_range1 rfl T.n_range (pa_cons (pv 3) pa_nil)) (blkOk_by (own := [("at", 5)]) (by kernel_rfl)) (fun _ _ _ _ _ => (pg_name (i := 5) sc_numbers_of.nd rfl (.inl rfl))) (fun _ _ _ _ _ => pts_nil) (fun _ _ _ _ _ => (pe_call (ok_sides_of T) (hr.mono (by decide)) rfl T.g_sides_of T.F_sides_of.kp T.b_sides_of .nil pass0 (pa_cons (pv 0) (pa_cons (pv 1) (pa_cons (pe_op op_add (pe_op op_mul (pv 4) (pv 3)) (pv 5)) pa_nil)))))))))))
set_option maxHeartbeats 4000000 in
theorem ok_numbers (T : Tx K mg) : FnOk P w K mg base (L2.CX P w) 4 T.f_numbers T.fd_numbers ["grid", "cells"] (sp_numbers K T.C) := by
  refine T.F_numbers.okX sc_numbers (fun vs H Q E h => by obtain ⟨_, _, rfl, _⟩ := h; rfl) (fun cdv A outer s H vs Q E hr h => ⟨t_numbers K T.C E, ?_, pure_numbers rfl h⟩)
  exact (pss_cons (ps_expr (pe_call (ok_check_grid T) (hr.mono (by decide)) rfl T.g_check_grid T.F_check_grid.kp T.b_check_grid .nil (passes_call (takes_of rfl rfl rfl rfl) (fun _ _ _ _ h => h)) (pa_cons (pv 0) pa_nil)))
      (pss_cons (ps_expr (pe_call (ok_check_cells T) (hr.mono (by decide)) rfl T.g_check_cells T.F_check_cells.kp T.b_check_cells .nil (passes_call (takes_of rfl rfl rfl rfl) (fun _ _ _ _ h => h)) (pa_cons (pv 0) (pa_cons (pv 1) pa_nil))))
      (pss_one (ps_ret (pe_call (ok_numbers_of T) (hr.mono (by decide)) rfl T.g_numbers_of T.F_numbers_of.kp T.b_numbers_of .nil pass0 (pa_cons (pv 0) (pa_cons (pv 1) pa_nil)))))))
set_option maxHeartbeats 4000000 in
theorem ok_l_beside (T : Tx K mg) : FnOk P w K mg base CX0 1 T.f_l_beside T.fd_l_beside ["_law_grid_here", "_law_cell"] (sp_l_beside K) := by
  refine T.F_l_beside.ok sc_l_beside (fun vs H Q E h => by obtain ⟨_, _, _, _, rfl, _⟩ := h; rfl) (fun cdv A outer s H vs Q E hr h => ⟨t_l_beside K, ?_, pure_l_beside rfl rfl h⟩)
  exact (pss_cons (ps_par (i := 2) (j := 3) (by rfl) sc_l_beside.nd rfl rfl (by decide) rfl rfl (pa_cons (pe_op op_fdiv (pv 1) (pe_ix ix_tup (pv 0) pe_int (fun _ _ => rfl))) (pa_cons (pe_op op_mod (pv 1) (pe_ix ix_tup (pv 0) pe_int (fun _ _ => rfl))) pa_nil)) (by rfl))
      (pss_cons (ps_set (i := 4) sc_l_beside.nd rfl (.inl rfl) (pe_lst (pa_cons (pe_tup (pa_cons (pe_op op_sub (pv 2) pe_int) (pa_cons (pv 3) pa_nil))) (pa_cons (pe_tup (pa_cons (pv 2) (pa_cons (pe_op op_sub (pv 3) pe_int) pa_nil))) (pa_cons (pe_tup (pa_cons (pv 2) (pa_cons (pe_op op_add (pv 3) pe_int) pa_nil))) (pa_cons (pe_tup (pa_cons (pe_op op_add (pv 2) pe_int) (pa_cons (pv 3) pa_nil))) pa_nil))))))
      (pss_one (ps_ret (pe_lc (own := [("_law_one", 5), ("_law_two", 6)]) (g := (gTup K 2 (gCons (gName 5) (gCons (gName 6) gNil)))) (tt := (tAnd (tTest (tChain oLe oLt (tC (.int 0)) (tVar 5) (tOp (rIxT K) (tVar 0) (tC (.int 0))))) (tTest (tChain oLe oLt (tC (.int 0)) (tVar 6) (tOp (rIxT K) (tVar 0) (tC (.int 1))))))) (te := (tOp oAdd (tOp oMul (tVar 5) (tOp (rIxT K) (tVar 0) (tC (.int 1)))) (tVar 6))) rfl sc_l_beside.nd (pi_list (pv 4)) (blkOk_by (own := [("_law_one", 5), ("_law_two", 6)]) (by kernel_rfl)) (fun _ _ _ _ _ => (pg_tup rfl (pgs_cons (pg_name (i := 5) sc_l_beside.nd rfl (.inl rfl)) (pgs_cons (pg_name (i := 6) sc_l_beside.nd rfl (.inl rfl)) pgs_nil)))) (fun _ _ _ _ _ => (pts_one (PW.pt (pw_and (pt_chain op_le op_lt pe_int (pv 5) (pe_ix ix_tup (pv 0) pe_int (fun _ _ => rfl))) (pw_and1 (pt_chain op_le op_lt pe_int (pv 6) (pe_ix ix_tup (pv 0) pe_int (fun _ _ => rfl)))))))) (fun _ _ _ _ _ => (pe_op op_add (pe_op op_mul (pv 5) (pe_ix ix_tup (pv 0) pe_int (fun _ _ => rfl))) (pv 6))))))))
set_option maxHeartbeats 4000000 in
theorem ok_l_numbers (T : Tx K mg) : FnOk P w K mg base CX0 2 T.f_l_numbers T.fd_l_numbers ["_law_grid_here", "_law_cells_here"] (sp_l_numbers K) := by
  refine T.F_l_numbers.ok sc_l_numbers (fun vs H Q E h => by obtain ⟨_, _, _, _, _, rfl, _⟩ := h; rfl) (fun cdv A outer s H vs Q E hr h => ⟨t_l_numbers K, ?_, pure_l_numbers rfl rfl h⟩)
  exact (pss_cons (ps_set (i := 2) sc_l_numbers.nd rfl (.inl rfl) (pe_lst pa_nil))
      (pss_cons (ps_for PassesOwn.never rfl (pi_range1 rfl T.n_range (pa_cons (pe_ix ix_tup (pv 0) pe_int (fun _ _ => rfl)) pa_nil)) (pg_name (i := 3) sc_l_numbers.nd rfl (.inl rfl)) (pss_cons (ps_set (i := 4) sc_l_numbers.nd rfl (.inl rfl) (pe_lst pa_nil))
      (pss_cons (ps_for PassesOwn.never rfl (pi_range1 rfl T.n_range (pa_cons (pe_ix ix_tup (pv 0) pe_int (fun _ _ => rfl)) pa_nil)) (pg_name (i := 5) sc_l_numbers.nd rfl (.inl rfl)) (pss_cons (ps_set (i := 6) sc_l_numbers.nd rfl (.inr rfl) (pe_op op_add (pe_op op_mul (pv 3) (pe_ix ix_tup (pv 0) pe_int (fun _ _ => rfl))) (pv 5)))
      (pss_cons (ps_setLc (i := 7) (own := [("_law_one", 9)]) (g := (gName 9)) (tt := (tTest (tOp rEq (tOp (rIn K false) (tVar 9) (tVar 1)) (tOp (rIn K false) (tVar 6) (tVar 1))))) (te := (tVar 9)) rfl sc_l_numbers.nd rfl rfl (sw_true rfl rfl rfl (by decide +kernel)) (pi_list (pe_call (ok_l_beside T) (hr.mono (by decide)) rfl T.g_l_beside T.F_l_beside.kp T.b_l_beside .nil pass0 (pa_cons (pv 0) (pa_cons (pv 6) pa_nil)))) (blkOk_by (own := [("_law_one", 9)]) (by kernel_rfl)) (fun _ _ _ _ _ => (pg_name (i := 9) sc_l_numbers.nd rfl (.inl rfl))) (fun _ _ _ _ _ => (pts_one (pt_cmpR op_eq (pe_cmpR op_in_seq (pv 9) (pv 1) (by rfl)) (pe_cmpR op_in_seq (pv 6) (pv 1) (by rfl)) (nomark _)))) (fun _ _ _ _ _ => (pv 9)))
      (pss_cons (ps_set (i := 8) sc_l_numbers.nd rfl (.inl rfl) (pe_ifExp (pt_cmpR op_in_seq (pv 6) (pv 1) (by rfl)) (pe_op op_sub pe_int (pe_callB call_len_seq (by rfl) T.n_len (by decide +kernel) (pa_cons (pe_call (ok_l_beside T) (hr.mono (by decide)) rfl T.g_l_beside T.F_l_beside.kp T.b_l_beside .nil pass0 (pa_cons (pv 0) (pa_cons (pv 6) pa_nil))) pa_nil))) pe_int))
      (pss_one (ps_expr (pe_bm PySem.F.plainAttrs_list PySem.F.slot_list_append PySem.F.type_list_append mt_append (pv 4) (pa_cons (pe_op op_add (pe_op op_sub (pe_callB call_len_seq (by rfl) T.n_len (by decide +kernel) (pa_cons (pe_call (ok_l_beside T) (hr.mono (by decide)) rfl T.g_l_beside T.F_l_beside.kp T.b_l_beside .nil pass0 (pa_cons (pv 0) (pa_cons (pv 6) pa_nil))) pa_nil)) (pe_callB call_len_seq (by rfl) T.n_len (by decide +kernel) (pa_cons (pv 7) pa_nil))) (pv 8)) pa_nil))))))))
      (pss_one (ps_expr (pe_bm PySem.F.plainAttrs_list PySem.F.slot_list_append PySem.F.type_list_append mt_append (pv 2) (pa_cons (pv 4) pa_nil)))))))
      (pss_one (ps_ret (pv 2)))))
set_option maxHeartbeats 4000000 in
theorem ok_l_whole (T : Tx K mg) : FnOk P w K mg base CX0 1 T.f_l_whole T.fd_l_whole ["_law_found"] (sp_l_whole K) := by
  refine T.F_l_whole.ok sc_l_whole (fun vs H Q E h => by obtain ⟨_, _, rfl, _⟩ := h; rfl) (fun cdv A outer s H vs Q E hr h => ⟨t_l_whole K, ?_, pure_l_whole rfl rfl h⟩)
  exact (pss_one (ps_ret (pe_and (pe_callB call_isi (by rfl) T.n_isinstance (by decide +kernel) (pa_cons (pv 0) (pa_cons (pe_bltn (v := .ty "int") (by rfl) T.n_int (by decide +kernel) rfl) pa_nil))) (pe_one (pe_not (pe_callB call_isi (by rfl) T.n_isinstance (by decide +kernel) (pa_cons (pv 0) (pa_cons (pe_bltn (v := .ty "bool") (by rfl) T.n_bool (by decide +kernel) rfl) pa_nil))))))))
set_option maxHeartbeats 4000000 in
theorem ok_law (T : Tx K mg) : FnOk P w K mg base CX0 5 T.f_law T.fd_law ["_law_script"] (sp_law K) := by
  refine T.F_law.ok sc_law (fun vs H Q E h => by obtain ⟨_, _, rfl, _⟩ := h; rfl) (fun cdv A outer s H vs Q E hr h => ⟨t_law K T.C, ?_, pure_law rfl rfl h⟩)
  exact (pss_cons (ps_for PassesOwn.never rfl (pi_range1 rfl T.n_range (pa_cons pe_int pa_nil)) (pg_name (i := 1) sc_law.nd rfl (.inl rfl)) (pss_cons (ps_set (i := 2) sc_law.nd rfl (.inl rfl) (pe_call (ok_l_grid T) (hr.mono (by decide)) rfl T.g_l_grid T.F_l_grid.kp T.b_l_grid .nil pass0 (pa_cons (pe_call (ok_l_number T) (hr.mono (by decide)) rfl T.g_l_number T.F_l_number.kp T.b_l_number .nil pass0 (pa_cons (pe_callB (cr_sum rfl) (by rfl) T.n_sum (by decide +kernel) (pa_cons (pe_slice sl_list (pv 0) po_none (po_some pe_int)) pa_nil)) (pa_cons (pe_op op_add (pv 1) pe_int) (pa_cons pe_int pa_nil)))) (pa_cons pe_int pa_nil))))
      (pss_cons (ps_set (i := 3) sc_law.nd rfl (.inl rfl) (pe_call (ok_l_cells T) (hr.mono (by decide)) rfl T.g_l_cells T.F_l_cells.kp T.b_l_cells .nil pass0 (pa_cons (pv 0) (pa_cons (pv 1) (pa_cons (pv 2) pa_nil)))))
      (pss_cons (ps_set (i := 4) sc_law.nd rfl (.inl rfl) (pe_callTy call_list_of (by rfl) T.n_list (by decide +kernel) (pa_cons (pv 3) pa_nil)))
      (pss_one (ps_for PassesOwn.never rfl (pi_range1 rfl T.n_range (pa_cons pe_int pa_nil)) (pg_name (i := 5) sc_law.nd rfl (.inl rfl)) (pss_cons (ps_set (i := 6) sc_law.nd rfl (.inl rfl) (pe_call (ok_numbers T) (hr.mono (by decide)) rfl T.g_numbers T.F_numbers.kp T.b_numbers .nil passL (pa_cons (pv 2) (pa_cons (pv 4) pa_nil))))
      (pss_cons (ps_if (PW.pt (pw_or (pt_not (pt_val (pe_callB call_isi (by rfl) T.n_isinstance (by decide +kernel) (pa_cons (pv 6) (pa_cons (pe_bltn (v := .ty "list") (by rfl) T.n_list (by decide +kernel) rfl) pa_nil))))) (pw_or (pt_cmpR (op_neD hr.units) (pv 6) (pe_call (ok_l_numbers T) (hr.mono (by decide)) rfl T.g_l_numbers T.F_l_numbers.kp T.b_l_numbers .nil pass0 (pa_cons (pv 2) (pa_cons (pv 3) pa_nil))) (nomark _)) (pw_or1 (pt_cmpR (op_neD hr.units) (pv 4) (pv 3) (nomark _)))))) (pss_one (ps_ret pe_bl)) pss_nil)
      (pss_cons (ps_for PassesOwn.never rfl (pi_list (pv 6)) (pg_name (i := 7) sc_law.nd rfl (.inl rfl)) (pss_cons (ps_if (PW.pt (pw_or (pt_not (pt_val (pe_callB call_isi (by rfl) T.n_isinstance (by decide +kernel) (pa_cons (pv 7) (pa_cons (pe_bltn (v := .ty "list") (by rfl) T.n_list (by decide +kernel) rfl) pa_nil))))) (pw_or1 (pt_not (pt_val (pe_callB (cr_all rfl) (by rfl) T.n_all (by decide +kernel) (pa_cons (pe_lc (own := [("_law_one", 8)]) (g := (gName 8)) (tt := tYes) (te := (tCall (sp_l_whole K) [] E0 (tCons (tVar 8) tNil))) rfl sc_law.nd (pi_list (pv 7)) (blkOk_by (own := [("_law_one", 8)]) (by kernel_rfl)) (fun _ _ _ _ _ => (pg_name (i := 8) sc_law.nd rfl (.inl rfl))) (fun _ _ _ _ _ => pts_nil) (fun _ _ _ _ _ => (pe_call (ok_l_whole T) (hr.mono (by decide)) rfl T.g_l_whole T.F_l_whole.kp T.b_l_whole .nil pass0 (pa_cons (pv 8) pa_nil)))) pa_nil))))))) (pss_one (ps_ret pe_bl)) pss_nil)
      (pss_one (ps_expr (pe_bm PySem.F.plainAttrs_list PySem.F.slot_list_append PySem.F.type_list_append mt_append (pv 7) (pa_cons pe_int pa_nil))))))
      (pss_one (ps_expr (pe_bm PySem.F.plainAttrs_list PySem.F.slot_list_append PySem.F.type_list_append mt_append (pv 6) (pa_cons (pe_lst pa_nil) pa_nil)))))))))))))
      (pss_one (ps_ret (pe_and (pe_cmpR (op_eqD hr.units) (pe_call (ok_numbers T) (hr.mono (by decide)) rfl T.g_numbers T.F_numbers.kp T.b_numbers .nil passL (pa_cons (pe_tup (pa_cons pe_int (pa_cons pe_int pa_nil))) (pa_cons (pe_lst (pa_cons pe_int pa_nil)) pa_nil))) (pe_lst (pa_cons (pe_lst (pa_cons pe_int (pa_cons pe_int pa_nil))) (pa_cons (pe_lst (pa_cons pe_int (pa_cons pe_int pa_nil))) pa_nil))) (nomark _)) (pe_one (pe_cmpR (op_eqD hr.units) (pe_call (ok_numbers T) (hr.mono (by decide)) rfl T.g_numbers T.F_numbers.kp T.b_numbers .nil passL (pa_cons (pe_tup (pa_cons pe_int (pa_cons pe_int pa_nil))) (pa_cons (pe_lst (pa_cons pe_int (pa_cons pe_int pa_nil))) pa_nil))) (pe_lst (pa_cons (pe_lst (pa_cons pe_int (pa_cons pe_int (pa_cons pe_int pa_nil)))) pa_nil)) (nomark _)))))))
end
theorem all_mk {l : PySem.W.OpenLaw} {w : World} {K : PySem.W.Frag} {h : Heap} {mg : Str → Option Value} {fa : Addr} {a_cBadGrid a_cBadCells : Addr} (X : K.In h) (G : h.Ns mainGlobals mg) (hfa : mg "law" = some (.ref fa))
    {oc_l_grid kV_l_grid dc_l_grid pm_l_grid cd_l_grid ct_l_grid : Value} {od_l_grid an_l_grid : Option Addr} {sl_l_grid : Array (Option Value)} {f_l_grid : Addr}
    {oc_l_number kV_l_number dc_l_number pm_l_number cd_l_number ct_l_number : Value} {od_l_number an_l_number : Option Addr} {sl_l_number : Array (Option Value)} {f_l_number : Addr}
    {oc_l_cells kV_l_cells dc_l_cells pm_l_cells cd_l_cells ct_l_cells : Value} {od_l_cells an_l_cells : Option Addr} {sl_l_cells : Array (Option Value)} {f_l_cells : Addr}
    {oc_is_whole kV_is_whole dc_is_whole pm_is_whole cd_is_whole ct_is_whole : Value} {od_is_whole an_is_whole : Option Addr} {sl_is_whole : Array (Option Value)} {f_is_whole : Addr}
    {oc_check_grid kV_check_grid dc_check_grid pm_check_grid cd_check_grid ct_check_grid : Value} {od_check_grid an_check_grid : Option Addr} {sl_check_grid : Array (Option Value)} {f_check_grid : Addr}
    {oc_check_cells kV_check_cells dc_check_cells pm_check_cells cd_check_cells ct_check_cells : Value} {od_check_cells an_check_cells : Option Addr} {sl_check_cells : Array (Option Value)} {f_check_cells : Addr}
    {oc_beside kV_beside dc_beside pm_beside cd_beside ct_beside : Value} {od_beside an_beside : Option Addr} {sl_beside : Array (Option Value)} {f_beside : Addr}
    {oc_sides_of kV_sides_of dc_sides_of pm_sides_of cd_sides_of ct_sides_of : Value} {od_sides_of an_sides_of : Option Addr} {sl_sides_of : Array (Option Value)} {f_sides_of : Addr}
    {oc_numbers_of kV_numbers_of dc_numbers_of pm_numbers_of cd_numbers_of ct_numbers_of : Value} {od_numbers_of an_numbers_of : Option Addr} {sl_numbers_of : Array (Option Value)} {f_numbers_of : Addr}
    {oc_numbers kV_numbers dc_numbers pm_numbers cd_numbers ct_numbers : Value} {od_numbers an_numbers : Option Addr} {sl_numbers : Array (Option Value)} {f_numbers : Addr}
    {oc_l_beside kV_l_beside dc_l_beside pm_l_beside cd_l_beside ct_l_beside : Value} {od_l_beside an_l_beside : Option Addr} {sl_l_beside : Array (Option Value)} {f_l_beside : Addr}
    {oc_l_numbers kV_l_numbers dc_l_numbers pm_l_numbers cd_l_numbers ct_l_numbers : Value} {od_l_numbers an_l_numbers : Option Addr} {sl_l_numbers : Array (Option Value)} {f_l_numbers : Addr}
    {oc_l_whole kV_l_whole dc_l_whole pm_l_whole cd_l_whole ct_l_whole : Value} {od_l_whole an_l_whole : Option Addr} {sl_l_whole : Array (Option Value)} {f_l_whole : Addr}
    {oc_law kV_law dc_law pm_law cd_law ct_law : Value} {od_law an_law : Option Addr} {sl_law : Array (Option Value)} {f_law : Addr}
    {k_MOST : Tok}
    (h_n_BadGrid : PySem.W.nsIn K mainGlobals "BadGrid" = some (some (.ref a_cBadGrid)))
    (h_x_BadGrid : PySem.W.excIn K a_cBadGrid [.type "ValueError", .type "Exception", .type "BaseException", .type "object"] "ValueError.__new__" = true)
    (h_k_BadGrid : PySem.W.keepIn K (.ref a_cBadGrid) = true)
    (h_e_BadGrid : PySem.W.subIn K (.ref a_cBadGrid) (.type "BaseException") = some true)
    (h_y_BadGrid : PySem.W.typeIn K (.ref a_cBadGrid) = some (.type "type"))
    (h_n_BadCells : PySem.W.nsIn K mainGlobals "BadCells" = some (some (.ref a_cBadCells)))
    (h_x_BadCells : PySem.W.excIn K a_cBadCells [.type "ValueError", .type "Exception", .type "BaseException", .type "object"] "ValueError.__new__" = true)
    (h_k_BadCells : PySem.W.keepIn K (.ref a_cBadCells) = true)
    (h_e_BadCells : PySem.W.subIn K (.ref a_cBadCells) (.type "BaseException") = some true)
    (h_y_BadCells : PySem.W.typeIn K (.ref a_cBadCells) = some (.type "type"))
    (ha_l_grid : PySem.W.nsIn K mainGlobals "_law_grid" = some (some (.ref f_l_grid)))
    (hl_l_grid : K.lookup f_l_grid = some ⟨oc_l_grid, od_l_grid, .func (PySem.W.fnOf "_law_grid" "_law_grid" (defArgs s_l_grid) (defBody s_l_grid) (defScope s_l_grid) .none kV_l_grid dc_l_grid pm_l_grid an_l_grid cd_l_grid ct_l_grid), sl_l_grid⟩)
    (hc_l_grid : PySem.W.codeIn K cd_l_grid "_law_grid" = true)
    (hk_l_grid : PySem.W.keepIn K (.ref f_l_grid) = true)
    (ha_l_number : PySem.W.nsIn K mainGlobals "_law_number" = some (some (.ref f_l_number)))
    (hl_l_number : K.lookup f_l_number = some ⟨oc_l_number, od_l_number, .func (PySem.W.fnOf "_law_number" "_law_number" (defArgs s_l_number) (defBody s_l_number) (defScope s_l_number) .none kV_l_number dc_l_number pm_l_number an_l_number cd_l_number ct_l_number), sl_l_number⟩)
    (hc_l_number : PySem.W.codeIn K cd_l_number "_law_number" = true)
    (hk_l_number : PySem.W.keepIn K (.ref f_l_number) = true)
    (ha_l_cells : PySem.W.nsIn K mainGlobals "_law_cells" = some (some (.ref f_l_cells)))
    (hl_l_cells : K.lookup f_l_cells = some ⟨oc_l_cells, od_l_cells, .func (PySem.W.fnOf "_law_cells" "_law_cells" (defArgs s_l_cells) (defBody s_l_cells) (defScope s_l_cells) .none kV_l_cells dc_l_cells pm_l_cells an_l_cells cd_l_cells ct_l_cells), sl_l_cells⟩)
    (hc_l_cells : PySem.W.codeIn K cd_l_cells "_law_cells" = true)
    (hk_l_cells : PySem.W.keepIn K (.ref f_l_cells) = true)
    (ha_is_whole : PySem.W.nsIn K mainGlobals "is_whole" = some (some (.ref f_is_whole)))
    (hl_is_whole : K.lookup f_is_whole = some ⟨oc_is_whole, od_is_whole, .func (PySem.W.fnOf "is_whole" "is_whole" (defArgs s_is_whole) (defBody s_is_whole) (defScope s_is_whole) .none kV_is_whole dc_is_whole pm_is_whole an_is_whole cd_is_whole ct_is_whole), sl_is_whole⟩)
    (hc_is_whole : PySem.W.codeIn K cd_is_whole "is_whole" = true)
    (hk_is_whole : PySem.W.keepIn K (.ref f_is_whole) = true)
    (ha_check_grid : PySem.W.nsIn K mainGlobals "check_grid" = some (some (.ref f_check_grid)))
    (hl_check_grid : K.lookup f_check_grid = some ⟨oc_check_grid, od_check_grid, .func (PySem.W.fnOf "check_grid" "check_grid" (defArgs s_check_grid) (defBody s_check_grid) (defScope s_check_grid) .none kV_check_grid dc_check_grid pm_check_grid an_check_grid cd_check_grid ct_check_grid), sl_check_grid⟩)
    (hc_check_grid : PySem.W.codeIn K cd_check_grid "check_grid" = true)
    (hk_check_grid : PySem.W.keepIn K (.ref f_check_grid) = true)
    (ha_check_cells : PySem.W.nsIn K mainGlobals "check_cells" = some (some (.ref f_check_cells)))
    (hl_check_cells : K.lookup f_check_cells = some ⟨oc_check_cells, od_check_cells, .func (PySem.W.fnOf "check_cells" "check_cells" (defArgs s_check_cells) (defBody s_check_cells) (defScope s_check_cells) .none kV_check_cells dc_check_cells pm_check_cells an_check_cells cd_check_cells ct_check_cells), sl_check_cells⟩)
    (hc_check_cells : PySem.W.codeIn K cd_check_cells "check_cells" = true)
    (hk_check_cells : PySem.W.keepIn K (.ref f_check_cells) = true)
    (ha_beside : PySem.W.nsIn K mainGlobals "beside" = some (some (.ref f_beside)))
    (hl_beside : K.lookup f_beside = some ⟨oc_beside, od_beside, .func (PySem.W.fnOf "beside" "beside" (defArgs s_beside) (defBody s_beside) (defScope s_beside) .none kV_beside dc_beside pm_beside an_beside cd_beside ct_beside), sl_beside⟩)
    (hc_beside : PySem.W.codeIn K cd_beside "beside" = true)
    (hk_beside : PySem.W.keepIn K (.ref f_beside) = true)
    (ha_sides_of : PySem.W.nsIn K mainGlobals "sides_of" = some (some (.ref f_sides_of)))
    (hl_sides_of : K.lookup f_sides_of = some ⟨oc_sides_of, od_sides_of, .func (PySem.W.fnOf "sides_of" "sides_of" (defArgs s_sides_of) (defBody s_sides_of) (defScope s_sides_of) .none kV_sides_of dc_sides_of pm_sides_of an_sides_of cd_sides_of ct_sides_of), sl_sides_of⟩)
    (hc_sides_of : PySem.W.codeIn K cd_sides_of "sides_of" = true)
    (hk_sides_of : PySem.W.keepIn K (.ref f_sides_of) = true)
    (ha_numbers_of : PySem.W.nsIn K mainGlobals "numbers_of" = some (some (.ref f_numbers_of)))
    (hl_numbers_of : K.lookup f_numbers_of = some ⟨oc_numbers_of, od_numbers_of, .func (PySem.W.fnOf "numbers_of" "numbers_of" (defArgs s_numbers_of) (defBody s_numbers_of) (defScope s_numbers_of) .none kV_numbers_of dc_numbers_of pm_numbers_of an_numbers_of cd_numbers_of ct_numbers_of), sl_numbers_of⟩)
    (hc_numbers_of : PySem.W.codeIn K cd_numbers_of "numbers_of" = true)
    (hk_numbers_of : PySem.W.keepIn K (.ref f_numbers_of) = true)
    (ha_numbers : PySem.W.nsIn K mainGlobals "numbers" = some (some (.ref f_numbers)))
    (hl_numbers : K.lookup f_numbers = some ⟨oc_numbers, od_numbers, .func (PySem.W.fnOf "numbers" "numbers" (defArgs s_numbers) (defBody s_numbers) (defScope s_numbers) .none kV_numbers dc_numbers pm_numbers an_numbers cd_numbers ct_numbers), sl_numbers⟩)
    (hc_numbers : PySem.W.codeIn K cd_numbers "numbers" = true)
    (hk_numbers : PySem.W.keepIn K (.ref f_numbers) = true)
    (ha_l_beside : PySem.W.nsIn K mainGlobals "_law_beside" = some (some (.ref f_l_beside)))
    (hl_l_beside : K.lookup f_l_beside = some ⟨oc_l_beside, od_l_beside, .func (PySem.W.fnOf "_law_beside" "_law_beside" (defArgs s_l_beside) (defBody s_l_beside) (defScope s_l_beside) .none kV_l_beside dc_l_beside pm_l_beside an_l_beside cd_l_beside ct_l_beside), sl_l_beside⟩)
    (hc_l_beside : PySem.W.codeIn K cd_l_beside "_law_beside" = true)
    (hk_l_beside : PySem.W.keepIn K (.ref f_l_beside) = true)
    (ha_l_numbers : PySem.W.nsIn K mainGlobals "_law_numbers" = some (some (.ref f_l_numbers)))
    (hl_l_numbers : K.lookup f_l_numbers = some ⟨oc_l_numbers, od_l_numbers, .func (PySem.W.fnOf "_law_numbers" "_law_numbers" (defArgs s_l_numbers) (defBody s_l_numbers) (defScope s_l_numbers) .none kV_l_numbers dc_l_numbers pm_l_numbers an_l_numbers cd_l_numbers ct_l_numbers), sl_l_numbers⟩)
    (hc_l_numbers : PySem.W.codeIn K cd_l_numbers "_law_numbers" = true)
    (hk_l_numbers : PySem.W.keepIn K (.ref f_l_numbers) = true)
    (ha_l_whole : PySem.W.nsIn K mainGlobals "_law_whole" = some (some (.ref f_l_whole)))
    (hl_l_whole : K.lookup f_l_whole = some ⟨oc_l_whole, od_l_whole, .func (PySem.W.fnOf "_law_whole" "_law_whole" (defArgs s_l_whole) (defBody s_l_whole) (defScope s_l_whole) .none kV_l_whole dc_l_whole pm_l_whole an_l_whole cd_l_whole ct_l_whole), sl_l_whole⟩)
    (hc_l_whole : PySem.W.codeIn K cd_l_whole "_law_whole" = true)
    (hk_l_whole : PySem.W.keepIn K (.ref f_l_whole) = true)
    (ha_law : PySem.W.nsIn K mainGlobals "law" = some (some (.ref f_law)))
    (hl_law : K.lookup f_law = some ⟨oc_law, od_law, .func (PySem.W.fnOf "law" "law" (defArgs s_law) (defBody s_law) (defScope s_law) .none kV_law dc_law pm_law an_law cd_law ct_law), sl_law⟩)
    (hc_law : PySem.W.codeIn K cd_law "law" = true)
    (hk_law : PySem.W.keepIn K (.ref f_law) = true)
    (hz_sum : PySem.W.nsIn K mainGlobals "sum" = some none)
    (hz_range : PySem.W.nsIn K mainGlobals "range" = some none)
    (hz_len : PySem.W.nsIn K mainGlobals "len" = some none)
    (hz_isinstance : PySem.W.nsIn K mainGlobals "isinstance" = some none)
    (hz_int : PySem.W.nsIn K mainGlobals "int" = some none)
    (hz_bool : PySem.W.nsIn K mainGlobals "bool" = some none)
    (hz_tuple : PySem.W.nsIn K mainGlobals "tuple" = some none)
    (hz_all : PySem.W.nsIn K mainGlobals "all" = some none)
    (hg_MOST : PySem.W.nsIn K mainGlobals "MOST" = some (some (.int 6 k_MOST)))
    (hz_list : PySem.W.nsIn K mainGlobals "list" = some none)
    (hz_any : PySem.W.nsIn K mainGlobals "any" = some none)
    (hz_zip : PySem.W.nsIn K mainGlobals "zip" = some none) :
    ∃ fd : FuncData, (∀ (s : Shared) (v : Value), BindsTo s fd ⟨[v], []⟩ [("_law_script", v)]) ∧ ∀ base : Heap, K.In base → base.Ns mainGlobals mg → FnOk l.prog w K mg base CX0 5 fa fd ["_law_script"] (sp_law K) := by
  have e := hfa.symm.trans (PySem.W.mg_of X G ha_law)
  cases e
  let T : Tx K mg :=
    { C := { cBadGrid := a_cBadGrid, cBadCells := a_cBadCells, cBadClues := 0, cNoRing := 0, cRingError := 0, cRing := 0, cSplit := 0, cHole := 0, cOne := 0, cTwo := 0, cNever := 0, cAnswer := 0 },
      g_BadGrid := PySem.W.mg_of X G h_n_BadGrid,
      x_BadGrid := h_x_BadGrid,
      k_BadGrid := h_k_BadGrid,
      e_BadGrid := h_e_BadGrid,
      y_BadGrid := h_y_BadGrid,
      g_BadCells := PySem.W.mg_of X G h_n_BadCells,
      x_BadCells := h_x_BadCells,
      k_BadCells := h_k_BadCells,
      e_BadCells := h_e_BadCells,
      y_BadCells := h_y_BadCells,
      f_l_grid := f_l_grid,
      fd_l_grid := PySem.W.fnOf "_law_grid" "_law_grid" (defArgs s_l_grid) (defBody s_l_grid) (defScope s_l_grid) .none kV_l_grid dc_l_grid pm_l_grid an_l_grid cd_l_grid ct_l_grid,
      F_l_grid := fun_mk (st := s_l_grid) hl_l_grid hc_l_grid hk_l_grid,
      g_l_grid := PySem.W.mg_of X G ha_l_grid,
      b_l_grid := (fun_mk (st := s_l_grid) hl_l_grid hc_l_grid hk_l_grid).binds (ps := ["_law_number_here", "_law_most"]) fun _ _ _ _ _ _ us hl => match us, hl with | [_, _], _ => rfl,
      f_l_number := f_l_number,
      fd_l_number := PySem.W.fnOf "_law_number" "_law_number" (defArgs s_l_number) (defBody s_l_number) (defScope s_l_number) .none kV_l_number dc_l_number pm_l_number an_l_number cd_l_number ct_l_number,
      F_l_number := fun_mk (st := s_l_number) hl_l_number hc_l_number hk_l_number,
      g_l_number := PySem.W.mg_of X G ha_l_number,
      b_l_number := (fun_mk (st := s_l_number) hl_l_number hc_l_number hk_l_number).binds (ps := ["_law_cell", "_law_at", "_law_whole_here"]) fun _ _ _ _ _ _ us hl => match us, hl with | [_, _, _], _ => rfl,
      f_l_cells := f_l_cells,
      fd_l_cells := PySem.W.fnOf "_law_cells" "_law_cells" (defArgs s_l_cells) (defBody s_l_cells) (defScope s_l_cells) .none kV_l_cells dc_l_cells pm_l_cells an_l_cells cd_l_cells ct_l_cells,
      F_l_cells := fun_mk (st := s_l_cells) hl_l_cells hc_l_cells hk_l_cells,
      g_l_cells := PySem.W.mg_of X G ha_l_cells,
      b_l_cells := (fun_mk (st := s_l_cells) hl_l_cells hc_l_cells hk_l_cells).binds (ps := ["_law_script", "_law_by", "_law_grid_here"]) fun _ _ _ _ _ _ us hl => match us, hl with | [_, _, _], _ => rfl,
      f_is_whole := f_is_whole,
      fd_is_whole := PySem.W.fnOf "is_whole" "is_whole" (defArgs s_is_whole) (defBody s_is_whole) (defScope s_is_whole) .none kV_is_whole dc_is_whole pm_is_whole an_is_whole cd_is_whole ct_is_whole,
      F_is_whole := fun_mk (st := s_is_whole) hl_is_whole hc_is_whole hk_is_whole,
      g_is_whole := PySem.W.mg_of X G ha_is_whole,
      b_is_whole := (fun_mk (st := s_is_whole) hl_is_whole hc_is_whole hk_is_whole).binds (ps := ["thing"]) fun _ _ _ _ _ _ us hl => match us, hl with | [_], _ => rfl,
      f_check_grid := f_check_grid,
      fd_check_grid := PySem.W.fnOf "check_grid" "check_grid" (defArgs s_check_grid) (defBody s_check_grid) (defScope s_check_grid) .none kV_check_grid dc_check_grid pm_check_grid an_check_grid cd_check_grid ct_check_grid,
      F_check_grid := fun_mk (st := s_check_grid) hl_check_grid hc_check_grid hk_check_grid,
      g_check_grid := PySem.W.mg_of X G ha_check_grid,
      b_check_grid := (fun_mk (st := s_check_grid) hl_check_grid hc_check_grid hk_check_grid).binds (ps := ["grid"]) fun _ _ _ _ _ _ us hl => match us, hl with | [_], _ => rfl,
      f_check_cells := f_check_cells,
      fd_check_cells := PySem.W.fnOf "check_cells" "check_cells" (defArgs s_check_cells) (defBody s_check_cells) (defScope s_check_cells) .none kV_check_cells dc_check_cells pm_check_cells an_check_cells cd_check_cells ct_check_cells,
      F_check_cells := fun_mk (st := s_check_cells) hl_check_cells hc_check_cells hk_check_cells,
      g_check_cells := PySem.W.mg_of X G ha_check_cells,
      b_check_cells := (fun_mk (st := s_check_cells) hl_check_cells hc_check_cells hk_check_cells).binds (ps := ["grid", "cells"]) fun _ _ _ _ _ _ us hl => match us, hl with | [_, _], _ => rfl,
      f_beside := f_beside,
      fd_beside := PySem.W.fnOf "beside" "beside" (defArgs s_beside) (defBody s_beside) (defScope s_beside) .none kV_beside dc_beside pm_beside an_beside cd_beside ct_beside,
      F_beside := fun_mk (st := s_beside) hl_beside hc_beside hk_beside,
      g_beside := PySem.W.mg_of X G ha_beside,
      b_beside := (fun_mk (st := s_beside) hl_beside hc_beside hk_beside).binds (ps := ["grid", "cell"]) fun _ _ _ _ _ _ us hl => match us, hl with | [_, _], _ => rfl,
      f_sides_of := f_sides_of,
      fd_sides_of := PySem.W.fnOf "sides_of" "sides_of" (defArgs s_sides_of) (defBody s_sides_of) (defScope s_sides_of) .none kV_sides_of dc_sides_of pm_sides_of an_sides_of cd_sides_of ct_sides_of,
      F_sides_of := fun_mk (st := s_sides_of) hl_sides_of hc_sides_of hk_sides_of,
      g_sides_of := PySem.W.mg_of X G ha_sides_of,
      b_sides_of := (fun_mk (st := s_sides_of) hl_sides_of hc_sides_of hk_sides_of).binds (ps := ["grid", "cells", "cell"]) fun _ _ _ _ _ _ us hl => match us, hl with | [_, _, _], _ => rfl,
      f_numbers_of := f_numbers_of,
      fd_numbers_of := PySem.W.fnOf "numbers_of" "numbers_of" (defArgs s_numbers_of) (defBody s_numbers_of) (defScope s_numbers_of) .none kV_numbers_of dc_numbers_of pm_numbers_of an_numbers_of cd_numbers_of ct_numbers_of,
      F_numbers_of := fun_mk (st := s_numbers_of) hl_numbers_of hc_numbers_of hk_numbers_of,
      g_numbers_of := PySem.W.mg_of X G ha_numbers_of,
      b_numbers_of := (fun_mk (st := s_numbers_of) hl_numbers_of hc_numbers_of hk_numbers_of).binds (ps := ["grid", "cells"]) fun _ _ _ _ _ _ us hl => match us, hl with | [_, _], _ => rfl,
      f_numbers := f_numbers,
      fd_numbers := PySem.W.fnOf "numbers" "numbers" (defArgs s_numbers) (defBody s_numbers) (defScope s_numbers) .none kV_numbers dc_numbers pm_numbers an_numbers cd_numbers ct_numbers,
      F_numbers := fun_mk (st := s_numbers) hl_numbers hc_numbers hk_numbers,
      g_numbers := PySem.W.mg_of X G ha_numbers,
      b_numbers := (fun_mk (st := s_numbers) hl_numbers hc_numbers hk_numbers).binds (ps := ["grid", "cells"]) fun _ _ _ _ _ _ us hl => match us, hl with | [_, _], _ => rfl,
      f_l_beside := f_l_beside,
      fd_l_beside := PySem.W.fnOf "_law_beside" "_law_beside" (defArgs s_l_beside) (defBody s_l_beside) (defScope s_l_beside) .none kV_l_beside dc_l_beside pm_l_beside an_l_beside cd_l_beside ct_l_beside,
      F_l_beside := fun_mk (st := s_l_beside) hl_l_beside hc_l_beside hk_l_beside,
      g_l_beside := PySem.W.mg_of X G ha_l_beside,
      b_l_beside := (fun_mk (st := s_l_beside) hl_l_beside hc_l_beside hk_l_beside).binds (ps := ["_law_grid_here", "_law_cell"]) fun _ _ _ _ _ _ us hl => match us, hl with | [_, _], _ => rfl,
      f_l_numbers := f_l_numbers,
      fd_l_numbers := PySem.W.fnOf "_law_numbers" "_law_numbers" (defArgs s_l_numbers) (defBody s_l_numbers) (defScope s_l_numbers) .none kV_l_numbers dc_l_numbers pm_l_numbers an_l_numbers cd_l_numbers ct_l_numbers,
      F_l_numbers := fun_mk (st := s_l_numbers) hl_l_numbers hc_l_numbers hk_l_numbers,
      g_l_numbers := PySem.W.mg_of X G ha_l_numbers,
      b_l_numbers := (fun_mk (st := s_l_numbers) hl_l_numbers hc_l_numbers hk_l_numbers).binds (ps := ["_law_grid_here", "_law_cells_here"]) fun _ _ _ _ _ _ us hl => match us, hl with | [_, _], _ => rfl,
      f_l_whole := f_l_whole,
      fd_l_whole := PySem.W.fnOf "_law_whole" "_law_whole" (defArgs s_l_whole) (defBody s_l_whole) (defScope s_l_whole) .none kV_l_whole dc_l_whole pm_l_whole an_l_whole cd_l_whole ct_l_whole,
      F_l_whole := fun_mk (st := s_l_whole) hl_l_whole hc_l_whole hk_l_whole,
      g_l_whole := PySem.W.mg_of X G ha_l_whole,
      b_l_whole := (fun_mk (st := s_l_whole) hl_l_whole hc_l_whole hk_l_whole).binds (ps := ["_law_found"]) fun _ _ _ _ _ _ us hl => match us, hl with | [_], _ => rfl,
      f_law := fa,
      fd_law := PySem.W.fnOf "law" "law" (defArgs s_law) (defBody s_law) (defScope s_law) .none kV_law dc_law pm_law an_law cd_law ct_law,
      F_law := fun_mk (st := s_law) hl_law hc_law hk_law,
      g_law := PySem.W.mg_of X G ha_law,
      b_law := (fun_mk (st := s_law) hl_law hc_law hk_law).binds (ps := ["_law_script"]) fun _ _ _ _ _ _ us hl => match us, hl with | [_], _ => rfl,
      n_sum := PySem.W.mg_none_of X G hz_sum,
      n_range := PySem.W.mg_none_of X G hz_range,
      n_len := PySem.W.mg_none_of X G hz_len,
      n_isinstance := PySem.W.mg_none_of X G hz_isinstance,
      n_int := PySem.W.mg_none_of X G hz_int,
      n_bool := PySem.W.mg_none_of X G hz_bool,
      n_tuple := PySem.W.mg_none_of X G hz_tuple,
      n_all := PySem.W.mg_none_of X G hz_all,
      k_MOST := k_MOST,
      g_MOST := PySem.W.mg_of X G hg_MOST,
      n_list := PySem.W.mg_none_of X G hz_list,
      n_any := PySem.W.mg_none_of X G hz_any,
      n_zip := PySem.W.mg_none_of X G hz_zip }
  exact ⟨T.fd_law, fun s v => .of_eq rfl, fun base _ _ => ok_law T⟩
end Sd
open PySem PySem.W PyProof.Rows
set_option maxHeartbeats 0 in
theorem PySem.Challenge.cw_sidering_k01_numbers_holds : PySem.Challenge.rw_sidering_k01_numbers.Holds := by
  w_on; o_law; k_head; (case hw => w_witness2)
  k_fill
  refine L2.walk_ofB (l := PySem.Challenge.rw_sidering_k01_numbers) (n := 63) (k := 5) (x := "_law_script") (CX := fun _ => L2.CX0) (sp := fun w => Sd.sp_law _) rfl (by decide) rfl ⟨rfl, by decide, by decide⟩ (fun w h Y => PySem.W.kIn_of Y) ?F (fun _ _ a ns hl hb _ hS => ⟨a, ns, rfl, hS, ⟨hl, hb⟩, fun _ => rfl⟩) (fun _ _ _ _ _ h => h)
  case F =>
    intro w mg fa h KX G hmg
    refine' Sd.all_mk KX G hmg ?h_n_BadGrid ?h_x_BadGrid ?h_k_BadGrid ?h_e_BadGrid ?h_y_BadGrid ?h_n_BadCells ?h_x_BadCells ?h_k_BadCells ?h_e_BadCells ?h_y_BadCells ?ha_l_grid ?hl_l_grid ?hc_l_grid ?hk_l_grid ?ha_l_number ?hl_l_number ?hc_l_number ?hk_l_number ?ha_l_cells ?hl_l_cells ?hc_l_cells ?hk_l_cells ?ha_is_whole ?hl_is_whole ?hc_is_whole ?hk_is_whole ?ha_check_grid ?hl_check_grid ?hc_check_grid ?hk_check_grid ?ha_check_cells ?hl_check_cells ?hc_check_cells ?hk_check_cells ?ha_beside ?hl_beside ?hc_beside ?hk_beside ?ha_sides_of ?hl_sides_of ?hc_sides_of ?hk_sides_of ?ha_numbers_of ?hl_numbers_of ?hc_numbers_of ?hk_numbers_of ?ha_numbers ?hl_numbers ?hc_numbers ?hk_numbers ?ha_l_beside ?hl_l_beside ?hc_l_beside ?hk_l_beside ?ha_l_numbers ?hl_l_numbers ?hc_l_numbers ?hk_l_numbers ?ha_l_whole ?hl_l_whole ?hc_l_whole ?hk_l_whole ?ha_law ?hl_law ?hc_law ?hk_law ?hz_sum ?hz_range ?hz_len ?hz_isinstance ?hz_int ?hz_bool ?hz_tuple ?hz_all ?hg_MOST ?hz_list ?hz_any ?hz_zip
    (case h_n_BadGrid => k_is)
    (case h_x_BadGrid => k_exc)
    (case h_k_BadGrid => k_is)
    (case h_e_BadGrid => k_is)
    (case h_y_BadGrid => k_is)
    (case h_n_BadCells => k_is)
    (case h_x_BadCells => k_exc)
    (case h_k_BadCells => k_is)
    (case h_e_BadCells => k_is)
    (case h_y_BadCells => k_is)
    (case ha_l_grid => k_is)
    (case hl_l_grid => k_is)
    (case hc_l_grid => k_is)
    (case hk_l_grid => k_is)
    (case ha_l_number => k_is)
    (case hl_l_number => k_is)
    (case hc_l_number => k_is)
    (case hk_l_number => k_is)
    (case ha_l_cells => k_is)
    (case hl_l_cells => k_is)
    (case hc_l_cells => k_is)
    (case hk_l_cells => k_is)
    (case ha_is_whole => k_is)
    (case hl_is_whole => k_is)
    (case hc_is_whole => k_is)
    (case hk_is_whole => k_is)
    (case ha_check_grid => k_is)
    (case hl_check_grid => k_is)
    (case hc_check_grid => k_is)
    (case hk_check_grid => k_is)
    (case ha_check_cells => k_is)
    (case hl_check_cells => k_is)
    (case hc_check_cells => k_is)
    (case hk_check_cells => k_is)
    (case ha_beside => k_is)
    (case hl_beside => k_is)
    (case hc_beside => k_is)
    (case hk_beside => k_is)
    (case ha_sides_of => k_is)
    (case hl_sides_of => k_is)
    (case hc_sides_of => k_is)
    (case hk_sides_of => k_is)
    (case ha_numbers_of => k_is)
    (case hl_numbers_of => k_is)
    (case hc_numbers_of => k_is)
    (case hk_numbers_of => k_is)
    (case ha_numbers => k_is)
    (case hl_numbers => k_is)
    (case hc_numbers => k_is)
    (case hk_numbers => k_is)
    (case ha_l_beside => k_is)
    (case hl_l_beside => k_is)
    (case hc_l_beside => k_is)
    (case hk_l_beside => k_is)
    (case ha_l_numbers => k_is)
    (case hl_l_numbers => k_is)
    (case hc_l_numbers => k_is)
    (case hk_l_numbers => k_is)
    (case ha_l_whole => k_is)
    (case hl_l_whole => k_is)
    (case hc_l_whole => k_is)
    (case hk_l_whole => k_is)
    (case ha_law => k_is)
    (case hl_law => k_is)
    (case hc_law => k_is)
    (case hk_law => k_is)
    (case hz_sum => k_is)
    (case hz_range => k_is)
    (case hz_len => k_is)
    (case hz_isinstance => k_is)
    (case hz_int => k_is)
    (case hz_bool => k_is)
    (case hz_tuple => k_is)
    (case hz_all => k_is)
    (case hg_MOST => k_is)
    (case hz_list => k_is)
    (case hz_any => k_is)
    (case hz_zip => k_is)
