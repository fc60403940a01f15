import PyProof.Rows.All
import Wide.All
import OpenK.AllK
import Wide.FinOn
import HandS.ForMost
import HandS.ForExc
import HandS.Deep
import KE.DataEq
import KE.DataCmp
import KE.DataMinMax
import KE.SortData
import KE.KDictKeyed
import KE.KeyNested
import PyProof.ReprRoads
import KE.KDictDisplayH
import HandS.TupLen
import HandS.IsInst
import HandS.TupAny
import HandS.Exc
import HandS.ExcOwn
import HandS.WordsExc
import KE.KSuper
import KE.KExcSuper
import HandS.Zip
import HandS.Dict
import HandS.Wide
import HandS.ExcField
import HandS.ExcIs
import HandS.Lambda
import KE.KExcIs
import HandS.RaiseMore
import PyProof.ReprBulk
import HandS.EndBits
import PySem.Challenge.RW_flipsheets_k85_whole_fewest_flips
set_option Elab.async false
set_option linter.all false
set_option maxRecDepth 100000
set_option maxHeartbeats 8100000
/-! Flipsheets, base: pairs and cuttings in the heap, operators on data. -/
namespace Fs
open PySem L2 PySem.Spec PyProof.Rows
abbrev P2 := Int × Int
/-! ### what the tuples of the heap say -/
/-- the tuples stay -/
def TSm (H H' : Hp) : Prop := ∀ b xs, H b = some (.tup xs) → H' b = some (.tup xs)
theorem TSm.rfl' (H : Hp) : TSm H H := fun _ _ h => h
theorem TSm.tr {H H1 H2 : Hp} (a : TSm H H1) (b : TSm H1 H2) : TSm H H2 := fun c xs h => b c xs (a c xs h)
theorem same_ts {H H' : Hp} (s : Same H H') : TSm H H' := fun b xs h => s b _ h
theorem ts_new {H : Hp} {p : Addr} {o : HO} (h : H p = none) : TSm H (upd H p o) := fun b xs e => by
  rw [upd_ne (ne_of_none e h)]; exact e
theorem ts_lst {H : Hp} {p : Addr} {o : HO} {ys : List V} (h : H p = some (.lst ys)) : TSm H (upd H p o) := fun b xs e => by
  rw [upd_ne (ne_of e h (by intro z; cases z))]; exact e
theorem ts_dk {H : Hp} {p : Addr} {o : HO} {ys : List (Key × V)} (h : H p = some (.dK ys)) : TSm H (upd H p o) := fun b xs e => by
  rw [upd_ne (ne_of e h (by intro z; cases z))]; exact e
theorem ts_ext {H : Hp} {p : Addr} {o : HO} {φ : Heap → Prop} (h : H p = some (.ext φ)) : TSm H (upd H p o) := fun b xs e => by
  rw [upd_ne (ne_of e h (by intro z; cases z))]; exact e
/-- what was tracked stays where a new place is laid, or an own new one is changed -/
theorem same_new {H H' : Hp} {p : Addr} {o : HO} (s : Same H H') (h : H' p = none) : Same H (upd H' p o) := fun b u e => by
  rw [upd_ne (ne_of_none (s b u e) h)]; exact s b u e
theorem same_put {H H' : Hp} {p : Addr} {o : HO} (s : Same H H') (h : H p = none) : Same H (upd H' p o) := fun b u e => by
  rw [upd_ne (ne_of_none e h)]; exact s b u e
/-- v is a tuple of these ints -/
def Tp (H : Hp) (v : V) (ns : List Int) : Prop := ∃ a, v = .ref a ∧ H a = some (.tup (ns.map V.int))
/-- v is the pair p -/
def Pr (H : Hp) (v : V) (p : P2) : Prop := Tp H v [p.1, p.2]
/-- v is a tuple of things that stand for bs -/
def TpOf {β : Type} (R : Hp → V → β → Prop) (H : Hp) (v : V) (bs : List β) : Prop := ∃ a vs, v = .ref a ∧ H a = some (.tup vs) ∧ Paired (R H) vs bs
/-- at a stands a list of things that stand for bs -/
def LsOf {β : Type} (R : Hp → V → β → Prop) (H : Hp) (a : Addr) (bs : List β) : Prop := ∃ vs, H a = some (.lst vs) ∧ Paired (R H) vs bs
/-- v is the cutting c -/
def Ct (H : Hp) (v : V) (c : List P2) : Prop := TpOf Pr H v c
/-- a relation that stays while the tuples stay -/
def Mono {β : Type} (R : Hp → V → β → Prop) : Prop := ∀ H H' v b, TSm H H' → R H v b → R H' v b
theorem Tp.mono : Mono Tp := fun H H' v b s ⟨a, e, h⟩ => ⟨a, e, s _ _ h⟩
theorem Pr.mono : Mono Pr := fun H H' v b s h => Tp.mono H H' v _ s h
theorem pair_mono {β : Type} {R : Hp → V → β → Prop} (m : Mono R) {H H' : Hp} (s : TSm H H') {vs : List V} {bs : List β} (p : Paired (R H) vs bs) : Paired (R H') vs bs :=
  Paired.mapP p fun v b r => m H H' v b s r
theorem TpOf.mono {β : Type} {R : Hp → V → β → Prop} (m : Mono R) : Mono (TpOf R) := fun H H' v b s ⟨a, vs, e, h, p⟩ => ⟨a, vs, e, s _ _ h, pair_mono m s p⟩
theorem Ct.mono : Mono Ct := TpOf.mono Pr.mono
theorem LsOf.keep {β : Type} {R : Hp → V → β → Prop} (m : Mono R) {H H' : Hp} {a : Addr} {bs : List β} (l : LsOf R H a bs) (s : TSm H H') (h : ∀ vs, H a = some (.lst vs) → H' a = some (.lst vs)) : LsOf R H' a bs := by
  obtain ⟨vs, e, p⟩ := l
  exact ⟨vs, h _ e, pair_mono m s p⟩
theorem LsOf.same {β : Type} {R : Hp → V → β → Prop} (m : Mono R) {H H' : Hp} {a : Addr} {bs : List β} (l : LsOf R H a bs) (s : Same H H') : LsOf R H' a bs := l.keep m (same_ts s) fun _ e => s _ _ e
theorem paired_at {α β : Type} {F : α → β → Prop} : ∀ {xs : List α} {ys : List β} {i : Nat} {y : β}, Paired F xs ys → ys[i]? = some y → ∃ x, xs[i]? = some x ∧ F x y
  | _, _, _, _, .nil, h => by simp at h
  | _, _, 0, _, .cons r _, h => by simp at h; subst h; exact ⟨_, rfl, r⟩
  | _, _, i + 1, _, .cons _ t, h => by
    obtain ⟨x, e, q⟩ := paired_at (i := i) t (by simpa using h)
    exact ⟨x, by simpa using e, q⟩
theorem paired_app {α β : Type} {F : α → β → Prop} : ∀ {xs xs' : List α} {ys ys' : List β}, Paired F xs ys → Paired F xs' ys' → Paired F (xs ++ xs') (ys ++ ys')
  | _, _, _, _, .nil, h => h
  | _, _, _, _, .cons r t, h => .cons r (paired_app t h)
theorem paired_one {α β : Type} {F : α → β → Prop} {x : α} {y : β} (h : F x y) : Paired F [x] [y] := .cons h .nil
theorem paired_len {α β : Type} {F : α → β → Prop} {xs : List α} {ys : List β} (h : Paired F xs ys) : xs.length = ys.length := Paired.length h
theorem paired_mem {α β : Type} {F : α → β → Prop} {xs : List α} {ys : List β} (h : Paired F xs ys) {x : α} (hx : x ∈ xs) : ∃ y, y ∈ ys ∧ F x y := by
  induction h with
  | nil => cases hx
  | cons r t ih =>
    rcases (List.mem_cons.mp hx) with e | hx
    · subst e; exact ⟨_, List.mem_cons_self, r⟩
    · obtain ⟨y, hy, q⟩ := ih hx
      exact ⟨y, List.mem_cons_of_mem _ hy, q⟩
/-! ### as data -/
def dI (n : Int) : PyData := .int n
def dTp (ns : List Int) : PyData := .tuple (ns.map dI)
def dP (p : P2) : PyData := .tuple [.int p.1, .int p.2]
def dC (c : List P2) : PyData := .tuple (c.map dP)
section
variable {K : PySem.W.Frag} {H : Hp}
theorem dpall_of {β : Type} {R : V → β → Prop} {enc : β → PyData} (hR : ∀ v b, R v b → Dp K H v (enc b)) : ∀ {vs : List V} {bs : List β}, Paired R vs bs → DpAll K H vs (bs.map enc)
  | _, _, .nil => .nil
  | _, _, .cons r t => .cons (hR _ _ r) (dpall_of hR t)
theorem dpall_ints : ∀ ns : List Int, DpAll K H (ns.map V.int) (ns.map dI)
  | [] => .nil
  | n :: ns => .cons (.int n) (dpall_ints ns)
theorem Tp.dp {v : V} {ns : List Int} (h : Tp H v ns) : Dp K H v (dTp ns) := by
  obtain ⟨a, rfl, e⟩ := h
  exact .tup (SqT.of e) (dpall_ints ns)
theorem Pr.dp {v : V} {p : P2} (h : Pr H v p) : Dp K H v (dP p) := Tp.dp h
theorem TpOf.dp {β : Type} {R : Hp → V → β → Prop} {enc : β → PyData} (hR : ∀ v b, R H v b → Dp K H v (enc b)) {v : V} {bs : List β} (h : TpOf R H v bs) : Dp K H v (.tuple (bs.map enc)) := by
  obtain ⟨a, vs, rfl, e, p⟩ := h
  exact .tup (SqT.of e) (dpall_of hR p)
theorem Ct.dp {v : V} {c : List P2} (h : Ct H v c) : Dp K H v (dC c) := TpOf.dp (fun _ _ r => Pr.dp r) h
theorem LsOf.dp {β : Type} {R : Hp → V → β → Prop} {enc : β → PyData} (hR : ∀ v b, R H v b → Dp K H v (enc b)) {a : Addr} {bs : List β} (h : LsOf R H a bs) : Dp K H (.ref a) (.list (bs.map enc)) := by
  obtain ⟨vs, e, p⟩ := h
  exact .lst (SqL.of e) (dpall_of hR p)
end
/-! ### what the data's == and < are -/
theorem eqv_dP (p q : P2) : PyData.eqv (dP p) (dP q) = decide (p = q) := by
  obtain ⟨a, b⟩ := p
  obtain ⟨c, d⟩ := q
  have e : PyData.eqv (dP (a, b)) (dP (c, d)) = ((a == c) && ((b == d) && true)) := by simp only [dP, PyData.eqv, PyData.eqvAll]
  rw [e]
  by_cases h1 : a = c
  · by_cases h2 : b = d
    · subst h1 h2; simp
    · have q : ¬ ((a, b) = (c, d)) := fun z => h2 (Prod.mk.inj z).2
      rw [decide_eq_false q, beq_eq_false_iff_ne.mpr h2]; simp
  · have q : ¬ ((a, b) = (c, d)) := fun z => h1 (Prod.mk.inj z).1
    rw [decide_eq_false q, beq_eq_false_iff_ne.mpr h1]; simp
theorem eqvAll_dP : ∀ c d : List P2, PyData.eqvAll (c.map dP) (d.map dP) = decide (c = d)
  | [], [] => by (simp [PyData.eqvAll])
  | [], _ :: _ => by (simp [PyData.eqvAll])
  | _ :: _, [] => by (simp [PyData.eqvAll])
  | p :: c, q :: d => by
    rw [List.map_cons, List.map_cons, PyData.eqvAll, eqv_dP, eqvAll_dP c d]
    by_cases h1 : p = q
    · by_cases h2 : c = d
      · subst h1 h2; simp
      · simp [h1, h2]
    · simp [h1]
theorem eqv_dC (c d : List P2) : PyData.eqv (dC c) (dC d) = decide (c = d) := by
  have e : PyData.eqv (dC c) (dC d) = PyData.eqvAll (c.map dP) (d.map dP) := by simp only [dC, PyData.eqv]
  rw [e, eqvAll_dP]
theorem any_dP (c : List P2) (p : P2) : ((c.map dP).any fun y => PyData.eqv y (dP p)) = decide (p ∈ c) := by
  rw [List.any_map]
  have e : ((fun y => PyData.eqv y (dP p)) ∘ dP) = fun q : P2 => decide (q = p) := by funext q; exact eqv_dP q p
  rw [e]
  by_cases h : p ∈ c
  · rw [decide_eq_true h]
    exact List.any_eq_true.mpr ⟨p, h, decide_eq_true rfl⟩
  · rw [decide_eq_false h]
    refine List.any_eq_false.mpr fun q hq z => h ?_
    have : q = p := of_decide_eq_true z
    rw [← this]; exact hq
theorem plain_dP (p : P2) : (dP p).plain = true := by simp [dP, PyData.plain, PyData.plainAll]
theorem plainAll_dP : ∀ c : List P2, PyData.plainAll (c.map dP) = true
  | [] => by simp [PyData.plainAll]
  | p :: c => by rw [List.map_cons, PyData.plainAll, plain_dP, plainAll_dP c]; rfl
theorem plain_dC (c : List P2) : (dC c).plain = true := by simp only [dC, PyData.plain]; exact plainAll_dP c
theorem depth_dP (p : P2) : (dP p).depth = 1 := by simp [dP, PyData.depth, PyData.depthAll]
theorem depthAll_dP : ∀ c : List P2, PyData.depthAll (c.map dP) ≤ 1
  | [] => by (simp [PyData.depthAll])
  | p :: c => by
    have := depthAll_dP c
    rw [List.map_cons, PyData.depthAll, depth_dP]; omega
theorem depth_dC (c : List P2) : (dC c).depth ≤ 2 := by
  have := depthAll_dP c
  simp only [dC, PyData.depth]; omega
/-! ### operators on data -/
section
variable {X : Cx}
/-- x in t, t a tuple of data -/
def rInT (K : PySem.W.Frag) (neg : Bool) : R2 := fun x y H Q => ∃ d ds, Dp K H x d ∧ Dp K H y (.tuple ds) ∧ d.plain = true ∧ PyData.plainAll ds = true ∧ d.depth ≤ 60 ∧ Q (.bl (if neg then !(ds.any fun z => PyData.eqv z d) else ds.any fun z => PyData.eqv z d)) H
theorem op_inT (hu : X.A.units + 64 < cLine) : OpR X (compareOp .In) (rInT X.K false) := by
  intro pns s σ H x y v u Q I rx ry h
  obtain ⟨d, ds, hd, he, pd, pds, dp, q⟩ := h
  rcases Dp.reads I d x v hd rx with ⟨as, r1⟩
  obtain ⟨bs, r2⟩ := Dp.reads I (.tuple ds) y u he ry
  exact SeqAt.in_tuple_data r2 r1 pds pd (by omega) ⟨.bl _, H, I, rfl, q⟩
theorem op_notInT (hu : X.A.units + 64 < cLine) : OpR X (compareOp .NotIn) (rInT X.K true) := by
  intro pns s σ H x y v u Q I rx ry h
  obtain ⟨d, ds, hd, he, pd, pds, dp, q⟩ := h
  rcases Dp.reads I d x v hd rx with ⟨as, r1⟩
  obtain ⟨bs, r2⟩ := Dp.reads I (.tuple ds) y u he ry
  exact SeqAt.notIn_tuple_data r2 r1 pds pd (by omega) ⟨.bl _, H, I, rfl, q⟩
/-- x in l, l a list of data -/
def rInL (K : PySem.W.Frag) (neg : Bool) : R2 := fun x y H Q => ∃ d ds, Dp K H x d ∧ Dp K H y (.list ds) ∧ d.plain = true ∧ PyData.plainAll ds = true ∧ d.depth ≤ 60 ∧ Q (.bl (if neg then !(ds.any fun z => PyData.eqv z d) else ds.any fun z => PyData.eqv z d)) H
theorem op_notInL (hu : X.A.units + 64 < cLine) : OpR X (compareOp .NotIn) (rInL X.K true) := by
  intro pns s σ H x y v u Q I rx ry h
  obtain ⟨d, ds, hd, he, pd, pds, dp, q⟩ := h
  rcases Dp.reads I d x v hd rx with ⟨as, r1⟩
  rcases Dp.reads I (.list ds) y u he ry with ⟨bs, r2⟩
  exact SeqAt.notIn_list_data r2 r1 pds pd (by omega) ⟨.bl _, H, I, rfl, q⟩
/-- the pair x in the cutting y -/
def rInC (neg : Bool) : R2 := fun x y H Q => ∃ p c, Pr H x p ∧ Ct H y c ∧ Q (.bl (if neg then decide (p ∉ c) else decide (p ∈ c))) H
theorem op_inC (hu : X.A.units + 64 < cLine) : OpR X (compareOp .In) (rInC false) := by
  intro pns s σ H x y v u Q I rx ry h
  obtain ⟨p, c, hp, hc, q⟩ := h
  refine op_inT hu pns s σ H x y v u Q I rx ry ⟨dP p, c.map dP, hp.dp, hc.dp, plain_dP p, plainAll_dP c, by rw [depth_dP]; decide, ?_⟩
  rw [any_dP]; exact q
theorem op_notInPL (hu : X.A.units + 64 < cLine) : OpR X (compareOp .NotIn) (fun x y H Q => ∃ p a c, Pr H x p ∧ y = .ref a ∧ LsOf Pr H a c ∧ Q (.bl (decide (p ∉ c))) H) := by
  intro pns s σ H x y v u Q I rx ry h
  obtain ⟨p, a, c, hp, rfl, hc, q⟩ := h
  refine op_notInL hu pns s σ H x _ v u Q I rx ry ⟨dP p, c.map dP, hp.dp, hc.dp fun _ _ r => Pr.dp r, plain_dP p, plainAll_dP c, by rw [depth_dP]; decide, ?_⟩
  rw [any_dP]
  simpa using q
/-- == and != of plain data -/
theorem op_eqQ (hu : X.A.units + 64 < cLine) : OpR X (compareOp .Eq) (fun x y H Q => ∃ d e, Dp X.K H x d ∧ Dp X.K H y e ∧ d.plain = true ∧ e.plain = true ∧ d.depth ≤ 60 ∧ Q (.bl (PyData.eqv d e)) H) := by
  intro pns s σ H x y v u Q I rx ry h
  obtain ⟨d, e, hd, he, pd, pe, dp, q⟩ := h
  rcases Dp.reads I d x v hd rx with ⟨as, r1⟩
  rcases Dp.reads I e y u he ry with ⟨bs, r2⟩
  exact SeqAt.eq_plain r1 r2 pd pe (by omega) ⟨.bl _, H, I, rfl, q⟩
theorem op_neQ (hu : X.A.units + 64 < cLine) : OpR X (compareOp .NotEq) (fun x y H Q => ∃ d e, Dp X.K H x d ∧ Dp X.K H y e ∧ d.plain = true ∧ e.plain = true ∧ d.depth ≤ 60 ∧ Q (.bl (!PyData.eqv d e)) H) := by
  intro pns s σ H x y v u Q I rx ry h
  obtain ⟨d, e, hd, he, pd, pe, dp, q⟩ := h
  rcases Dp.reads I d x v hd rx with ⟨as, r1⟩
  rcases Dp.reads I e y u he ry with ⟨bs, r2⟩
  exact SeqAt.ne_plain r1 r2 pd pe (by omega) ⟨.bl _, H, I, rfl, q⟩
theorem op_neP (hu : X.A.units + 64 < cLine) : OpR X (compareOp .NotEq) (fun x y H Q => ∃ p q, Pr H x p ∧ Pr H y q ∧ Q (.bl (decide (p ≠ q))) H) := by
  intro pns s σ H x y v u Q I rx ry h
  obtain ⟨p, q, hp, hq, k⟩ := h
  refine op_neQ hu pns s σ H x y v u Q I rx ry ⟨dP p, dP q, hp.dp, hq.dp, plain_dP p, plain_dP q, by rw [depth_dP]; decide, ?_⟩
  rw [eqv_dP]
  simpa using k
theorem op_neC (hu : X.A.units + 64 < cLine) : OpR X (compareOp .NotEq) (fun x y H Q => ∃ p q, Ct H x p ∧ Ct H y q ∧ Q (.bl (decide (p ≠ q))) H) := by
  intro pns s σ H x y v u Q I rx ry h
  obtain ⟨p, q, hp, hq, k⟩ := h
  refine op_neQ hu pns s σ H x y v u Q I rx ry ⟨dC p, dC q, hp.dp, hq.dp, plain_dC p, plain_dC q, by have := depth_dC p; omega, ?_⟩
  rw [eqv_dC]
  simpa using k
/-- < on pairs -/
def ltP (p q : P2) : Bool := decide (p.1 < q.1 ∨ (p.1 = q.1 ∧ p.2 < q.2))
theorem alike_dP (p q : P2) : PySem.W.alike (dP p) (dP q) = true := by simp [dP, PySem.W.alike, PySem.W.alikeAll]
theorem lt_dP (p q : P2) : PySem.W.dataLt (dP p) (dP q) = ltP p q := PySem.W.dataLt_ii p.1 p.2 q.1 q.2
theorem op_gtP (hu : X.A.units + 64 < cLine) : OpR X (compareOp .Gt) (fun x y H Q => ∃ p q, Pr H x p ∧ Pr H y q ∧ Q (.bl (ltP q p)) H) := by
  intro pns s σ H x y v u Q I rx ry h
  obtain ⟨p, q, hp, hq, k⟩ := h
  obtain ⟨as, r1⟩ := Dp.reads I (dP p) x v hp.dp rx
  obtain ⟨bs, r2⟩ := Dp.reads I (dP q) y u hq.dp ry
  refine PySem.W.gt_data r1 r2 (alike_dP p q) (by intro z; cases z) (by rw [depth_dP, depth_dP]; omega) ⟨.bl _, H, I, rfl, ?_⟩
  rw [lt_dP]; exact k
theorem op_geP (hu : X.A.units + 64 < cLine) : OpR X (compareOp .GtE) (fun x y H Q => ∃ p q, Pr H x p ∧ Pr H y q ∧ Q (.bl (!ltP p q)) H) := by
  intro pns s σ H x y v u Q I rx ry h
  obtain ⟨p, q, hp, hq, k⟩ := h
  obtain ⟨as, r1⟩ := Dp.reads I (dP p) x v hp.dp rx
  obtain ⟨bs, r2⟩ := Dp.reads I (dP q) y u hq.dp ry
  refine PySem.W.ge_data r1 r2 (alike_dP p q) (by intro z; cases z) (by rw [depth_dP, depth_dP]; omega) ⟨.bl _, H, I, rfl, ?_⟩
  rw [lt_dP]; exact k
end
end Fs
/-! Flipsheets, base: dicts whose keys are cuttings; a < b < c < d; repr, sorted, min of data. -/
namespace Fs
open PySem L2 PySem.Spec PyProof.Rows
/-! ### the key that a cutting is -/
def nkP (p : P2) : NestedKey := .tup [.num p.1, .num p.2]
def nk (c : List P2) : NestedKey := .tup (c.map nkP)
theorem nkP_inj {p q : P2} (h : nkP p = nkP q) : p = q := by
  obtain ⟨a, b⟩ := p
  obtain ⟨c, d⟩ := q
  simp only [nkP, NestedKey.tup.injEq, List.cons.injEq, NestedKey.num.injEq] at h
  rw [h.1, h.2.1]
theorem nks_inj : ∀ {c d : List P2}, c.map nkP = d.map nkP → c = d
  | [], [], _ => rfl
  | [], _ :: _, h => by (simp at h)
  | _ :: _, [], h => by (simp at h)
  | p :: c, q :: d, h => by
    rw [List.map_cons, List.map_cons, List.cons.injEq] at h
    rw [nkP_inj h.1, nks_inj h.2]
theorem nk_inj {c d : List P2} (h : nk c = nk d) : c = d := nks_inj (by simpa [nk] using h)
theorem nkP_depth (p : P2) : (nkP p).depth = 1 := by simp [nkP, NestedKey.depth, NestedKey.depthAll]
theorem nks_depth : ∀ c : List P2, NestedKey.depthAll (c.map nkP) ≤ 1
  | [] => by simp [NestedKey.depthAll]
  | p :: c => by
    have := nks_depth c
    rw [List.map_cons, NestedKey.depthAll, nkP_depth]; omega
theorem nk_depth (c : List P2) : (nk c).depth ≤ 8 := by
  have := nks_depth c
  simp only [nk, NestedKey.depth]; omega
section
variable {X : Cx} {pns : List (Addr × Obj)} {σ : L2.St} {H : Hp} {s : Shared}
theorem pr_nested (I : Inv X pns σ H s) {v : V} {u : Value} {p : P2} (h : Pr H v p) (r : RelV v u) : NestedIs s.heap (nkP p) u := by
  obtain ⟨a, rfl, e⟩ := h
  cases r
  obtain ⟨its, rv, ⟨o, ho, hc, n, hd⟩, _⟩ := I.tuple (SqT.of e)
  refine .tup ho hc hd ?_
  have rv' : Vals [V.int p.1, V.int p.2] its := rv
  cases rv' with
  | cons r1 t1 =>
    cases t1 with
    | cons r2 t2 =>
      cases t2
      obtain ⟨t, rfl⟩ := r1
      obtain ⟨t', rfl⟩ := r2
      exact .cons (.int _ _) (.cons (.int _ _) .nil)
theorem prs_nested (I : Inv X pns σ H s) : ∀ {vs : List V} {us : List Value} {c : List P2}, Paired (Pr H) vs c → Vals vs us → NestedAll s.heap (c.map nkP) us
  | _, _, _, .nil, r => by cases r; exact .nil
  | _, _, _, .cons h t, r => by
    cases r with
    | cons r1 r2 => exact .cons (pr_nested I h r1) (prs_nested I t r2)
theorem ct_nested (I : Inv X pns σ H s) {a : Addr} {c : List P2} (h : Ct H (.ref a) c) : (nestedKind X.prog X.w).is s.heap (nk c) a := by
  obtain ⟨a', vs, ea, e, p⟩ := h
  cases ea
  obtain ⟨its, rv, ⟨o, ho, hc, n, hd⟩, _⟩ := I.tuple (SqT.of e)
  exact ⟨.tup ho hc hd (by simpa using prs_nested I p rv), nk_depth c⟩
end
/-! ### the dict -/
abbrev XE := NestedKey × Addr × Value
/-- what the dict's own object says -/
def NDo (P : Program) (w : World) (d : Addr) (xs : List XE) : Heap → Prop := fun h =>
  (d == sysModules) = false ∧ ∃ o es ep, h.get? d = some o ∧ o.ExactDict ∧ o.data = .dict es ep ∧ es.toList = xs.map (entryOfKey (nestedKind P w)) ∧ (xs.map (·.1)).Nodup
/-- one entry -/
def NDe (H : Hp) (x : XE) (kv : List P2 × Int) : Prop := x.1 = nk kv.1 ∧ Ct H (.ref x.2.1) kv.1 ∧ ∃ t, x.2.2 = .int kv.2 t
/-- at d stands a dict with cuttings as keys, ints as values -/
def ND (P : Program) (w : World) (H : Hp) (d : Addr) (kvs : List (List P2 × Int)) : Prop :=
  kvs.length ≤ 1000 ∧ ∃ xs, H d = some (.ext (NDo P w d xs)) ∧ Paired (NDe H) xs kvs
theorem ND.keep {P : Program} {w : World} {H H' : Hp} {d : Addr} {kvs : List (List P2 × Int)} (n : ND P w H d kvs) (s : TSm H H') (h : ∀ φ, H d = some (.ext φ) → H' d = some (.ext φ)) : ND P w H' d kvs := by
  obtain ⟨l, xs, e, p⟩ := n
  exact ⟨l, xs, h _ e, Paired.mapP p fun x kv ⟨a, b, c⟩ => ⟨a, Ct.mono _ _ _ _ s b, c⟩⟩
theorem ND.same {P : Program} {w : World} {H H' : Hp} {d : Addr} {kvs : List (List P2 × Int)} (n : ND P w H d kvs) (s : Same H H') : ND P w H' d kvs := n.keep (same_ts s) fun _ e => s _ _ e
theorem ND.ext {P : Program} {w : World} {H : Hp} {d : Addr} {kvs : List (List P2 × Int)} (n : ND P w H d kvs) : ∃ φ, H d = some (.ext φ) := let ⟨_, xs, e, _⟩ := n; ⟨_, e⟩
theorem NDo.stay {P : Program} {w : World} {d : Addr} {xs : List XE} (h1 h2 : Heap) (a : NDo P w d xs h1) (k : ∀ o, h1.get? d = some o → h2.get? d = some o) : NDo P w d xs h2 := by
  obtain ⟨z, o, es, ep, e, r⟩ := a
  exact ⟨z, o, es, ep, k o e, r⟩
theorem nd_obj {P : Program} {w : World} {H : Hp} {h : Heap} {d : Addr} {xs : List XE} (a : NDo P w d xs h) : ObjOk P w H h d (.ext (NDo P w d xs)) :=
  ⟨a, let ⟨_, o, _, _, e, _⟩ := a; ⟨o, e⟩, fun h1 h2 z k => NDo.stay h1 h2 z k⟩
theorem nd_look {H : Hp} : ∀ {xs : List XE} {kvs : List (List P2 × Int)} (c : List P2), Paired (NDe H) xs kvs →
    (∀ v, kvs.lookup c = some v → ∃ p t, atKey xs (nk c) = some p ∧ p.2 = .int v t) ∧ (kvs.lookup c = none → atKey xs (nk c) = none)
  | _, _, c, .nil => ⟨fun v h => by simp at h, fun _ => rfl⟩
  | x :: xs, kv :: kvs, c, .cons ⟨e1, _, t, e2⟩ r => by
    obtain ⟨ih1, ih2⟩ := nd_look c r
    obtain ⟨k, v0⟩ := kv
    obtain ⟨x1, x2, x3⟩ := x
    have e1' : x1 = nk k := e1
    have e2' : x3 = .int v0 t := e2
    subst e1' e2'
    by_cases h : c = k
    · subst h
      have q : ((c, v0) :: kvs).lookup c = some v0 := by simp [List.lookup]
      have q2 : atKey ((nk c, x2, Value.int v0 t) :: xs) (nk c) = some (x2, Value.int v0 t) := by simp [atKey]
      rw [q, q2]
      exact ⟨fun v e => ⟨_, t, rfl, by cases e; rfl⟩, fun e => by cases e⟩
    · have hb : (c == k) = false := beq_eq_false_iff_ne.mpr h
      have q : ((k, v0) :: kvs).lookup c = kvs.lookup c := by simp [List.lookup, hb]
      have hn : ¬ nk k = nk c := fun z => h (nk_inj z).symm
      have q2 : atKey ((nk k, x2, Value.int v0 t) :: xs) (nk c) = atKey xs (nk c) := by simp [atKey, hn]
      rw [q, q2]
      exact ⟨ih1, ih2⟩
section
variable {X : Cx} {pns : List (Addr × Obj)} {σ : L2.St} {H : Hp} {s : Shared} {d b : Addr} {kvs : List (List P2 × Int)} {c : List P2} {E : Value → Shared → Prop} {A : Around}
theorem nd_at (I : Inv X pns σ H s) (n : ND X.prog X.w H d kvs) : ∃ xs, H d = some (.ext (NDo X.prog X.w d xs)) ∧ Paired (NDe H) xs kvs ∧ (d == sysModules) = false ∧ s.heap.DictOfH (nestedKind X.prog X.w) d xs := by
  obtain ⟨_, xs, e, p⟩ := n
  obtain ⟨⟨z, o, es, ep, h1, h2, h3, h4, h5⟩, _, _⟩ := I.hok d _ e
  refine ⟨xs, e, p, z, o, es, ep, h1, h2, h3, h4, fun x hx => ?_, h5⟩
  obtain ⟨kv, _, e1, e2, _⟩ := paired_mem p hx
  rw [e1]
  exact ct_nested I e2
theorem nest_room (hu : A.units + 64 < cLine) : (nestedKind X.prog X.w).room A.in1 := by
  show A.units + 1 + 8 < cLine
  omega
/-- {} -/
theorem pe_ndnew {pos : Pos} : PE X (.Dict [] [] pos) (fun σ H Q => ∀ p φ, H p = none → ND X.prog X.w (upd H p (.ext φ)) p [] → Q (.ref p) (upd H p (.ext φ))) := ⟨fun pns s σ H Q I h => by
  have hsm : (s.heap.objs.size == sysModules) = false := beq_eq_false_iff_ne.mpr (Ne.symm (Nat.ne_of_lt I.big))
  have ob : NDo X.prog X.w s.heap.objs.size [] (s.heap.push { cls := .type "dict", data := .dict #[] }) := ⟨hsm, _, #[], 0, Heap.get?_push_size _ rfl, ⟨rfl, rfl, rfl⟩, rfl, rfl, List.nodup_nil⟩
  refine wpAny_Dict_empty ⟨.ref s.heap.objs.size, upd H s.heap.objs.size (.ext (NDo X.prog X.w s.heap.objs.size [])), I.laid (a := s.heap.objs.size) (t' := s.toks) (fun _ _ q => Heap.get?_push_of_some _ q) (Nat.le_refl _) (nd_obj ob), rfl, ?_⟩
  exact h _ _ (I.hok.fresh (Nat.le_refl _)) ⟨Nat.zero_le _, [], upd_same, .nil⟩⟩
/-- d[c] = n, c not there -/
theorem nd_put {n : Int} {u : Value} {Q : Unit → Shared → Prop} (hu : A.units + 64 < cLine) (I : Inv X pns σ H s) (nd : ND X.prog X.w H d kvs) (hc : Ct H (.ref b) c) (hl : kvs.lookup c = none) (hz : kvs.length < 1000) (ru : RelV (.int n) u)
    (h : ∀ φ s', ND X.prog X.w (upd H d (.ext φ)) d (kvs ++ [(c, n)]) → Inv X pns σ (upd H d (.ext φ)) s' → Q () s') : wpAny (model X.prog X.w) A (setItem (.ref d) (.ref b) u) Q E s := by
  obtain ⟨xs, e, p, hd, dd⟩ := nd_at I nd
  obtain ⟨t, rfl⟩ := ru
  have hlen : xs.length = kvs.length := paired_len p
  have hno := (nd_look c p).2 hl
  refine wpAny_setItem_heap (hsz := by rw [hlen, sizeLine_eq]; omega) (nest_room hu) (ct_nested I hc) dd fun h' dd' hs => ?_
  rw [storedH_new hno] at dd'
  rcases dd' with ⟨q, es, ep, hq, h2, h3, h4, _, h5⟩
  have mu : Mut (H d) := by rw [e]; exact True.intro
  have ts : TSm H (upd H d (.ext (NDo X.prog X.w d (xs ++ [(nk c, b, .int n t)])))) := ts_ext e
  refine h _ _ ⟨by rw [List.length_append, List.length_singleton]; omega, _, upd_same, ?_⟩ (d_write I mu hs ⟨q, hq⟩ (nd_obj ⟨hd, q, es, ep, hq, h2, h3, h4, h5⟩))
  exact paired_app (Paired.mapP p fun x kv ⟨a, bb, cc⟩ => ⟨a, Ct.mono _ _ _ _ ts bb, cc⟩) (paired_one ⟨rfl, Ct.mono _ _ _ _ ts hc, t, rfl⟩)
end
section
variable {X : Cx} {o i e value : Expr} {pos pos' : Pos} {td ty tv : TE}
/-- d[c] -/
theorem pe_ndget (hu : X.A.units + 64 < cLine) (ho : PE X o td) (hi : PE X i ty) (hs : NoSl i) :
    PE X (.Subscript o i pos) (fun σ H Q => td σ H fun x H1 => ty σ H1 fun y H2 => ∃ d kvs c v, x = .ref d ∧ ND X.prog X.w H2 d kvs ∧ Ct H2 y c ∧ kvs.lookup c = some v ∧ Q (.int v) H2) := by
  refine ⟨fun pns s σ H Q I h => ?_⟩
  refine subD_of PySem.F.slot_dict_getitem.lookup hs (thn (ho.run pns s σ H _ I h) fun u s1 ⟨x, H1, I1, rx, q1⟩ => thn (hi.run pns s1 σ H1 _ I1 q1) fun iv s2 ⟨y, H2, I2, ry, d, kvs, c, v, ex, nd, hc, hl, q2⟩ => ?_)
  subst ex
  obtain rfl : u = .ref d := rx
  obtain ⟨b, vs, ey, hb, hp⟩ := id hc
  subst ey
  obtain rfl : iv = Value.ref b := ry
  obtain ⟨xs, e, p, hd, dd⟩ := nd_at I2 nd
  obtain ⟨pr, t, hk, hv⟩ := (nd_look c p).1 v hl
  refine ⟨dd.typeIs, wpAny_getItem_heap (nest_room hu) (ct_nested I2 hc) dd hk ?_⟩
  rw [hv]
  exact ⟨.int v, H2, I2.tok _, ⟨t, rfl⟩, q2⟩
/-- c not in d -/
theorem pc_ndnotin (hu : X.A.units + 64 < cLine) (hi : PE X i ty) (ho : PE X o td) :
    PC X .NotIn i o (fun σ H Q => ty σ H fun y H1 => td σ H1 fun x H2 => ∃ d kvs c, x = .ref d ∧ ND X.prog X.w H2 d kvs ∧ Ct H2 y c ∧ Q (.bl (kvs.lookup c).isNone) H2) := by
  refine ⟨fun pns s σ H Q I h => ?_⟩
  refine thn (hi.run pns s σ H _ I h) fun iv s1 ⟨y, H1, I1, ry, q1⟩ => thn (ho.run pns s1 σ H1 _ I1 q1) fun u s2 ⟨x, H2, I2, rx, d, kvs, c, ex, nd, hc, q2⟩ => ?_
  subst ex
  obtain rfl : u = .ref d := rx
  obtain ⟨b, vs, ey, hb, hp⟩ := id hc
  subst ey
  obtain rfl : iv = Value.ref b := ry
  obtain ⟨xs, e, p, hd, dd⟩ := nd_at I2 nd
  have fin : (!(atKey xs (nk c)).isSome) = (kvs.lookup c).isNone := by
    cases q : kvs.lookup c with
    | none => rw [(nd_look c p).2 q]; rfl
    | some v =>
      obtain ⟨pr, t, hk, _⟩ := (nd_look c p).1 v q
      rw [hk]; rfl
  show wpAny _ _ (contains (.ref d) (.ref b) >>= fun r => (pure (Value.bool (!r)) : Sem Value)) _ _ _
  refine wpAny_bind (wpAny_contains_heap (nest_room hu) (ct_nested I2 hc) hd dd (wpAny_pure ?_))
  rw [fin]
  exact ⟨.bl _, H2, I2.tok _, rfl, q2⟩
/-- d[c] = n, c not there -/
theorem ps_ndput (hu : X.A.units + 64 < cLine) (ho : PE X o td) (hi : PE X i ty) (hv : PE X value tv) (hs : swapsWith value (some (.Subscript o i pos')) pos.line X.env = pure false) :
    PS X (.Assign [.Subscript o i pos'] value pos) (fun D σ H => tv σ H fun v H1 => td σ H1 fun x H2 => ty σ H2 fun y H3 => ∃ d kvs c n, x = .ref d ∧ v = .int n ∧ ND X.prog X.w H3 d kvs ∧ Ct H3 y c ∧ kvs.lookup c = none ∧ kvs.length < 1000 ∧
      ∀ φ, ND X.prog X.w (upd H3 d (.ext φ)) d (kvs ++ [(c, n)]) → D.nx σ (upd H3 d (.ext φ))) := by
  refine ⟨fun pns s σ H D I h => ?_⟩
  refine wpAny_Assign_Subscript (thn (hv.run pns s σ H _ I h) fun r s1 ⟨v, H1, I1, rv, q1⟩ => thn (ho.run pns s1 σ H1 _ I1 q1) fun u s2 ⟨x, H2, I2, rx, q2⟩ => thn (hi.run pns s2 σ H2 _ I2 q2) fun iv s3 ⟨y, H3, I3, ry, d, kvs, c, n, ex, ev, nd, hc, hl, hz, q3⟩ => ?_) hs
  subst ex ev
  obtain rfl : u = .ref d := rx
  obtain ⟨b, vs, ey, hb, hp⟩ := id hc
  subst ey
  obtain rfl : iv = Value.ref b := ry
  exact nd_put hu I3 nd hc hl hz rv fun φ s4 nd4 I4 => ⟨σ, _, I4, q3 φ nd4⟩
/-- len(d) -/
theorem call_len_nd : CallR X (.builtin "len") (fun xs H Q => ∃ p kvs, xs = [.ref p] ∧ ND X.prog X.w H p kvs ∧ Q (.int ((kvs.length : Nat) : Int)) H) := by
  intro pns s σ H xs us Q I r h
  obtain ⟨p, kvs, rfl, nd, q⟩ := h
  rcases vals1 r with ⟨u, rfl, rx⟩
  obtain rfl : u = .ref p := rx
  obtain ⟨ys, e, rel, hd, dd⟩ := nd_at I nd
  have hl : ys.length = kvs.length := paired_len rel
  have hz := nd.1
  refine call_len_dictH hd dd (by rw [hl]; omega) ?_
  rw [hl]
  exact (⟨.int ((kvs.length : Nat) : Int), H, I.tok _, ⟨_, rfl⟩, q⟩)
/-! ### a < b < c < d -/
def tChain3 (r r' r'' : R2) (ta tb tc td : TE) : TE := fun σ H Q => ta σ H fun x H1 => tb σ H1 fun y H2 => r x y H2 fun z H3 => ∃ k, z = .bl k ∧
  (if k = true then tc σ H3 fun w' H4 => r' y w' H4 fun z' H5 => ∃ k', z' = .bl k' ∧ (if k' = true then td σ H5 fun w2 H6 => r'' w' w2 H6 Q else Q (.bl false) H5) else Q (.bl false) H3)
theorem pe_chain3 {a b c d : Expr} {ta tb tc td : TE} {op op' op'' : CmpOp} {r r' r'' : R2} (ho : OpR X (compareOp op) r) (ho' : OpR X (compareOp op') r') (ho'' : OpR X (compareOp op'') r'') (ha : PE X a ta) (hb : PE X b tb) (hc : PE X c tc) (hd : PE X d td)
    (hm : lastMarks [op, op', op''] [b, c, d] = false := by with_unfolding_all rfl) : PE X (.Compare a [op, op', op''] [b, c, d] pos) (tChain3 r r' r'' ta tb tc td) := by
  refine ⟨fun pns s σ H Q I h => ?_⟩
  refine Compare_chain (thn (ha.run pns s σ H _ I h) fun v s1 ⟨x, H1, I1, r1, q1⟩ => chain_link (thn (hb.run pns s1 σ H1 _ I1 q1) fun u s2 ⟨y, H2, I2, r2, q2⟩ =>
    thn (ho pns s2 σ H2 x y v u _ I2 r1 r2 q2) fun dd s3 ⟨z, H3, I3, r3, k, e, q3⟩ => ?_)) hm
  subst e
  cases r3
  refine wpAny_truthy_bool ?_
  cases k with
  | false => exact (ite_ff ⟨.bl false, H3, I3, rfl, q3⟩)
  | true =>
    refine ite_tt (chain_link (thn (hc.run pns s3 σ H3 _ I3 q3) fun u4 s4 ⟨w4, H4, I4, r4, q4⟩ => thn (ho' pns s4 σ H4 y w4 u u4 _ I4 r2 r4 q4) fun dd5 s5 ⟨z5, H5, I5, r5, k5, e5, q5⟩ => ?_))
    subst e5
    cases r5
    refine wpAny_truthy_bool ?_
    cases k5 with
    | false => exact ite_ff ⟨.bl false, H5, I5, rfl, q5⟩
    | true => exact ite_tt (chain_last (thn (hd.run pns s5 σ H5 _ I5 q5) fun u6 s6 ⟨w6, H6, I6, r6, q6⟩ => ho'' pns s6 σ H6 w4 w6 u4 u6 Q I6 r4 r6 q6))
/-! ### repr, sorted, min -/
/-- repr(x) of a list or tuple, where no repr is under way -/
theorem call_reprD (hg : X.A.guards = some []) (hu : X.A.units + 64 < cLine) : CallR X (.builtin "repr") (fun xs H Q => ∃ a d, xs = [.ref a] ∧ Dp X.K H (.ref a) d ∧ d.showable = true ∧ d.hasDict = false ∧ d.depth ≤ 60 ∧ d.shown.length ≤ sizeLine ∧ Q (.str d.shown) H) := by
  intro pns s σ H xs us Q I r h
  obtain ⟨a, d, rfl, hd, h1, h2, h3, h4, q⟩ := h
  rcases vals1 r with ⟨u, rfl, rx⟩
  obtain ⟨as, rr⟩ := Dp.reads I d _ u hd rx
  obtain rfl : u = .ref a := rx
  exact repr_of_reads' rr h1 (PyData.noDict_hsm h2) hg (by omega) (fun _ _ e => e) (fun h' u tk k => ⟨.str d.shown, H, I.kept (t' := tk) k, ⟨u, rfl⟩, q⟩) h4
/-- sorted(xs) of items that stand for data that are alike -/
theorem call_sortedD {β : Type} (R : Hp → V → β → Prop) (enc : β → PyData) (hu : X.A.units + 64 < cLine) (hR : ∀ H v b, R H v b → Dp X.K H v (enc b)) :
    CallR X (.builtin "sorted") (fun xs H Q => ∃ a vs bs, xs = [.ref a] ∧ H a = some (.lst vs) ∧ Paired (R H) vs bs ∧ PySem.W.AllAlike (bs.map enc) ∧ PySem.W.Sortable (bs.map enc) ∧ (∀ b ∈ bs, (enc b).depth ≤ 50) ∧
      ∀ p ys, H p = none → Paired (R H) ys (bs.mergeSort (PySem.W.dataLe false enc)) → Q (.ref p) (upd H p (.lst ys))) := by
  intro pns s σ H xs us Q I r h
  obtain ⟨a, vs, bs, rfl, ha, hp, hal, hk, hdp, q⟩ := h
  rcases vals1 r with ⟨u, rfl, rx⟩
  obtain rfl : u = .ref a := rx
  obtain ⟨its, rv, pl, hz⟩ := I.list (SqL.of ha)
  have each : ∀ {vs : List V} {us : List Value} {bs : List β}, Vals vs us → Paired (R H) vs bs → PySem.W.EachIs (fun v b => ∃ x, RelV x v ∧ R H x b) us bs := by
    intro vs us bs r p
    induction r generalizing bs with
    | nil => cases p; exact .nil
    | cons r1 r2 ih =>
      cases p with
      | cons p1 p2 => exact .cons ⟨_, r1, p1⟩ (ih p2)
  have back : ∀ {us : List Value} {bs : List β}, PySem.W.EachIs (fun v b => ∃ x, RelV x v ∧ R H x b) us bs → ∃ ys, Vals ys us ∧ Paired (R H) ys bs := by
    intro us bs h
    induction h with
    | nil => exact (⟨[], .nil, .nil⟩)
    | cons h1 _ ih =>
      obtain ⟨x, r1, p1⟩ := h1
      obtain ⟨ys, r2, p2⟩ := ih
      exact ⟨x :: ys, .cons r1 r2, .cons p1 p2⟩
  have e1 := each rv hp
  have hlen : bs.length = vs.length := (paired_len hp).symm
  refine PySem.W.sorted_data (enc := enc) (bs := bs) pl.isList e1 (e1.mono fun v b ⟨x, rx, hr⟩ => Dp.reads I (enc b) x v (hR H x b hr) rx) hal hk (by omega) (fun b hb => by have := hdp b hb; omega) fun out ho eo => ?_
  obtain ⟨ys, ry, py⟩ := back eo
  obtain ⟨c, hc⟩ := sortedAll_at s.heap its out.toArray
  have hn : H (s.heap.objs.size + 1) = none := I.hok.fresh (Nat.le_succ _)
  have hyl : ys.length ≤ sizeLine := by
    have := ry.length
    omega
  exact ⟨.ref (s.heap.objs.size + 1), _, I.laid (a := s.heap.objs.size + 1) (o := .lst ys) (t' := s.toks) (fun _ _ e => sortedAll_old e) (Nat.le_succ _) ⟨hyl, out, c, ry, hc⟩, rfl, q _ ys hn py⟩
theorem mergeSort_len {β : Type} (le : β → β → Bool) (l : List β) : (l.mergeSort le).length = l.length := List.length_mergeSort l
/-- min(xs) of pairs: the item that is the least -/
theorem call_minP (hh : X.calm = true) (hu : X.A.units + 64 < cLine) : CallR X (.builtin "min") (fun xs H Q => ∃ a p c, xs = [.ref a] ∧ LsOf Pr H a (p :: c) ∧ ∀ v, Pr H v (c.foldl (fun a y => if ltP y a then y else a) p) → Q v H) := by
  intro pns s σ H xs us Q I r h
  obtain ⟨a, p, c, rfl, hls, q⟩ := h
  rcases vals1 r with ⟨u, rfl, rx⟩
  obtain rfl : u = .ref a := rx
  obtain ⟨vs, ha, hp⟩ := hls
  obtain ⟨its, rv, pl, hz⟩ := I.list (SqL.of ha)
  obtain ⟨as, hr⟩ := Dp.readsAll I ((p :: c).map dP) vs its (dpall_of (fun v b r => Pr.dp (K := X.K) r) hp) rv
  have hal : PySem.W.AlikeAll ((p :: c).map dP) := by
    refine ⟨fun x hx y hy => ?_, fun x hx => ?_⟩
    · obtain ⟨p1, _, rfl⟩ := List.mem_map.mp hx
      obtain ⟨p2, _, rfl⟩ := List.mem_map.mp hy
      exact alike_dP p1 p2
    · obtain ⟨p1, _, rfl⟩ := List.mem_map.mp hx
      intro z; cases z
  have hdp := depthAll_dP (p :: c)
  have hmin : ∀ (c : List P2) (p : P2), PySem.W.minD (dP p) (c.map dP) = dP (c.foldl (fun a y => if ltP y a then y else a) p) := by
    intro c
    induction c with
    | nil => intro p; rfl
    | cons y c ih =>
      intro p
      have e : PySem.W.minD (dP p) ((y :: c).map dP) = PySem.W.minD (if PySem.W.dataLt (dP y) (dP p) then dP y else dP p) (c.map dP) := rfl
      rw [e, lt_dP, List.foldl_cons]
      cases ltP y p with
      | true => exact ih y
      | false => exact ih p
  refine PySem.W.min_list_data (I.ok.hd hh) pl.isList (by simpa using hr) hal (by simp only [List.map_cons] at hdp ⊢; omega) fun i v h' tk bs hi hrd k => ?_
  have hi' : its[i]? = some v := by simpa using hi
  have hJ : Inv X pns σ H { s with heap := h', toks := tk } := I.kept k
  obtain ⟨x, hx, rx⟩ : ∃ x, vs[i]? = some x ∧ RelV x v := by
    cases hv : vs[i]? with
    | none =>
      have := Vals.none_of rv hv
      rw [this] at hi'; cases hi'
    | some x =>
      obtain ⟨u, hu', ru⟩ := rv.get hv
      rw [hu'] at hi'; cases hi'
      exact ⟨x, rfl, ru⟩
  obtain ⟨pq, hpq, hPr⟩ := L2.paired_get hp hx
  obtain ⟨as2, r2⟩ := Dp.reads hJ (dP pq) x v hPr.dp rx
  have ed : dP pq = PySem.W.minD (dP p) (c.map dP) := SeqAt.plain_unique (dP pq) _ v as2 bs (plain_dP pq) r2 (by simpa using hrd)
  rw [hmin c p] at ed
  have ep : pq = c.foldl (fun a y => if ltP y a then y else a) p := by
    have z := eqv_dP pq (c.foldl (fun a y => if ltP y a then y else a) p)
    rw [ed, SeqAt.eqv_refl_plain _ (plain_dP _)] at z
    exact of_decide_eq_true z.symm
  exact ⟨x, H, hJ, rx, q x (by rw [← ep]; exact hPr)⟩
end
end Fs
/-! Flipsheets, defs 1: is_from, is_diagonal, are_crossing, are_joined, triangles_of. -/
namespace Fs
open PySem L2 PySem.Spec PyProof.Rows
def top (i : Nat) : Stmt := PySem.Challenge.pw_flipsheets_k85_whole_fewest_flips.main.body.getD i (.Pass ⟨0, 0, 0, 0⟩)
theorem nt_ {b : Bool} (h : (!b) = true) : b = false := by cases b <;> first | rfl | cases h
theorem nf_ {b : Bool} (h : ¬ ((!b) = true)) : b = true := by cases b <;> first | rfl | exact absurd rfl h
/-- the built-in names are not stored by the module -/
structure Blt (mg : Str → Option Value) : Prop where
  isinstance : mg "isinstance" = none
  int : mg "int" = none
  bool : mg "bool" = none
  tuple : mg "tuple" = none
  len : mg "len" = none
  zip : mg "zip" = none
  range : mg "range" = none
  sorted : mg "sorted" = none
  min : mg "min" = none
  max : mg "max" = none
  list : mg "list" = none
  repr : mg "repr" = none
/-- a def of the text, where it stands -/
structure Df (K : PySem.W.Frag) (mg : Str → Option Value) (x : Str) (st : Stmt) (f : Addr) (fd : FuncData) : Prop where
  fn : Fun K x x st f fd
  g : mg x = some (.ref f)
/-- the module's name x is a def that keeps the promise sp -/
def Has (P : Program) (w : World) (K : PySem.W.Frag) (mg : Str → Option Value) (base : Heap) (CX : CXT) (k : Nat) (x : Str) (ps : List Str) (sp : Sp) : Prop :=
  ∃ f fd, mg x = some (.ref f) ∧ PySem.W.keepIn K (.ref f) = true ∧ FnOk P w K mg base CX k f fd ps sp ∧ Binds K fd ps []
section
variable {X : Cx}
theorem pe_has {CX : CXT} {k : Nat} {x : Str} {ps : List Str} {sp : Sp} {E : XK} {p pos : Pos} {e : Expr} {es : List Expr} {t : TA} (F : Has X.prog X.w X.K X.mg X.base CX k x ps sp) (hr : Room k X.A) (hg : Gl X x) (hx : Passes CX X E)
    (args : PA X (e :: es) t) (nodbg : (x == ("__debug__" : Str)) = false := by decide) (each : starEach (e :: es) X.env = (false, eval e X.env) :: starEach es X.env := by rfl) (noStar : (backTo pos (starEach es X.env)).any (·.1) = false := by rfl) :
    PE X (.Call (.Name x p) (e :: es) [] pos) (tCall sp [] E t) := by
  obtain ⟨f, fd, hm, hk, F, hb⟩ := F
  exact pe_call F hr hg hm hk hb .nil hx args nodbg each noStar
end
section
variable
  {P : Program}
  {w : World} {K : PySem.W.Frag} {mg : Str → Option Value} {base : Heap}
theorem Has.mono {CX : CXT} {j k : Nat} {x : Str} {ps : List Str} {sp : Sp} (h : Has P w K mg base CX j x ps sp) (hj : j ≤ k) : Has P w K mg base CX k x ps sp := by
  obtain ⟨f, fd, a, b, c, d⟩ := h
  exact ⟨f, fd, a, b, c.mono hj, d⟩
theorem has_of {CX : CXT} {k : Nat} {x : Str} {st : Stmt} {f : Addr} {fd : FuncData} {ps : List Str} {sp : Sp} (D : Df K mg x st f fd) (F : FnOk P w K mg base CX k f fd ps sp) (b : Binds K fd ps []) : Has P w K mg base CX k x ps sp := ⟨f, fd, D.g, D.fn.kp, F, b⟩
/-! ### is_from -/
abbrev sIsFrom : Stmt := top 6
def spIsFrom : Sp := fun vs H Q _ => ∃ v lo hi : Int, vs = [.int v, .int lo, .int hi] ∧ Q (.bl (decide (lo ≤ v) && decide (v ≤ hi))) H
theorem scIsFrom : FnScope ["value", "low", "high"] ["value", "low", "high"] (defScope sIsFrom) := ⟨rfl, rfl, rfl, by decide +kernel, rfl, by decide +kernel, by decide +kernel⟩
theorem ok_is_from {f : Addr} {fd : FuncData} (B : Blt mg) (D : Df K mg "is_from" sIsFrom f fd) : Has P w K mg base CX0 1 "is_from" ["value", "low", "high"] spIsFrom := by
  refine has_of D (D.fn.ok scIsFrom (fun vs H Q E h => ?_) (fun cdv A outer s H vs Q E hr h => ?_)) (D.fn.binds fun _ _ _ _ _ _ us hl => match us, hl with | [_, _, _], _ => rfl)
  · obtain ⟨v, lo, hi, rfl, _⟩ := h
    rfl
  · obtain ⟨v, lo, hi, rfl, q⟩ := h
    refine ⟨_, pss_one (ps_ret (pe_and (pe_callB call_isi (by rfl) B.isinstance PyProof.Rows.boot_isinstance (pa_cons (pv 0) (pa_cons (pe_bltn (v := .ty "int") (by rfl) B.int PyProof.Rows.boot_int rfl) pa_nil)))
      (pe_and (pe_not (pe_callB call_isi (by rfl) B.isinstance PyProof.Rows.boot_isinstance (pa_cons (pv 0) (pa_cons (pe_bltn (v := .ty "bool") (by rfl) B.bool PyProof.Rows.boot_bool rfl) pa_nil))))
        (pe_one (pe_chain op_le op_le (pv 1) (pv 0) (pv 2)))))), ?_⟩
    refine ⟨_, rfl, ?_⟩
    refine ⟨_, _, _, _, true, rfl, .ty "int", .base (.int v), kit_ty (by decide +kernel), true, rfl, iteT ?_⟩
    refine ⟨_, rfl, ?_⟩
    refine ⟨_, _, _, _, false, rfl, .ty "bool", .base (.int v), kit_ty (by decide +kernel), false, rfl, true, rfl, iteT ?_⟩
    refine ⟨_, rfl, _, rfl, _, _, rfl, rfl, _, rfl, ite2 (fun c => ?_) (fun c => ?_)⟩
    · refine ⟨_, rfl, _, _, rfl, rfl, ?_⟩
      have e : (decide (lo ≤ v) && decide (v ≤ hi)) = decide (v ≤ hi) := by rw [show decide (lo ≤ v) = true from c, Bool.true_and]
      rw [e] at q
      exact q
    · have e : (decide (lo ≤ v) && decide (v ≤ hi)) = false := by rw [show decide (lo ≤ v) = false from by simpa using c, Bool.false_and]
      rw [e] at q
      exact q
/-! ### is_diagonal -/
abbrev sIsDiag : Stmt := top 11
def isDiag (n : Int) (p : P2) : Bool := (decide (0 ≤ p.1) && decide (p.1 ≤ n - 1)) && ((decide (0 ≤ p.2) && decide (p.2 ≤ n - 1)) && (decide (2 ≤ p.2 - p.1) && decide (p.2 - p.1 ≤ n - 2)))
def spIsDiag : Sp := fun vs H Q _ => ∃ (n : Int) (v : V) (p : P2), vs = [.int n, v] ∧ Pr H v p ∧ Q (.bl (isDiag n p)) H
theorem scIsDiag : FnScope ["corners", "value"] ["corners", "value"] (defScope sIsDiag) := ⟨rfl, rfl, rfl, by decide +kernel, rfl, by decide +kernel, by decide +kernel⟩
theorem ok_is_diag {f : Addr} {fd : FuncData} (B : Blt mg) (GF : Has P w K mg base CX0 1 "is_from" ["value", "low", "high"] spIsFrom) (D : Df K mg "is_diagonal" sIsDiag f fd) : Has P w K mg base CX0 2 "is_diagonal" ["corners", "value"] spIsDiag := by
  refine has_of D (D.fn.ok scIsDiag (fun vs H Q E h => ?_) (fun cdv A outer s H vs Q E hr h => ?_)) (D.fn.binds fun _ _ _ _ _ _ us hl => match us, hl with | [_, _], _ => rfl)
  · obtain ⟨n, v, p, rfl, _⟩ := h
    rfl
  · obtain ⟨n, v, p, rfl, hp, q⟩ := h
    obtain ⟨a, rfl, ha⟩ := hp
    obtain ⟨i, j⟩ := p
    have ha' : H a = some (.tup [.int i, .int j]) := ha
    refine ⟨_, pss_cons (ps_if (PW.pt (pw_or (pt_not (pt_val (pe_callB call_isi (by rfl) B.isinstance PyProof.Rows.boot_isinstance (pa_cons (pv 1) (pa_cons (pe_bltn (v := .ty "tuple") (by rfl) B.tuple PyProof.Rows.boot_tuple rfl) pa_nil)))))
        (pw_or1 (pt_cmpR op_ne (pe_callB call_len_seq (by rfl) B.len PySem.boot_len (pa_cons (pv 1) pa_nil)) pe_int (nomark _))))) (pss_one (ps_ret pe_bl)) pss_nil)
      (pss_cons (ps_if (PW.pt (pw_or (pt_not (pt_val (pe_has GF hr rfl pass0 (pa_cons (pe_ix ix_tup (pv 1) pe_int (fun _ _ => rfl)) (pa_cons pe_int (pa_cons (pe_op op_sub (pv 0) pe_int) pa_nil))))))
        (pw_or1 (pt_not (pt_val (pe_has GF hr rfl pass0 (pa_cons (pe_ix ix_tup (pv 1) pe_int (fun _ _ => rfl)) (pa_cons pe_int (pa_cons (pe_op op_sub (pv 0) pe_int) pa_nil))))))))) (pss_one (ps_ret pe_bl)) pss_nil)
      (pss_one (ps_ret (pe_chain op_le op_le pe_int (pe_op op_sub (pe_ix ix_tup (pv 1) pe_int (fun _ _ => rfl)) (pe_ix ix_tup (pv 1) pe_int (fun _ _ => rfl))) (pe_op op_sub (pv 0) pe_int))))), ?_⟩
    have i0 : atI [V.int i, V.int j] 0 = some (.int i) := rfl
    have i1 : atI [V.int i, V.int j] 1 = some (.int j) := rfl
    refine ⟨_, rfl, _, _, _, _, true, rfl, .ty "tuple", .base (.tup ha'), kit_ty (by decide +kernel), true, rfl, iteF ?_⟩
    refine ⟨_, rfl, a, _, rfl, .inr (SqT.of ha'), rfl, _, rfl, iteF ?_⟩
    refine ⟨_, rfl, a, _, _, _, rfl, rfl, SqT.of ha', i0, _, rfl, _, _, rfl, rfl, i, 0, n - 1, rfl, _, rfl, ite2 (fun c => ?_) (fun c => ?_)⟩
    · -- the first one is not from 0 to n - 1
      have e : isDiag n (i, j) = false := by
        have c' : (decide (0 ≤ i) && decide (i ≤ n - 1)) = false := nt_ c
        unfold isDiag
        rw [show (decide (0 ≤ (i, j).1) && decide ((i, j).1 ≤ n - 1)) = false from c', Bool.false_and]
      rw [e] at q
      exact iteT q
    · have c' : (decide (0 ≤ i) && decide (i ≤ n - 1)) = true := nf_ c
      refine ⟨_, rfl, a, _, _, _, rfl, rfl, SqT.of ha', i1, _, rfl, _, _, rfl, rfl, j, 0, n - 1, rfl, _, rfl, ite2 (fun d => ?_) (fun d => ?_)⟩
      · have e : isDiag n (i, j) = false := by
          have d' : (decide (0 ≤ j) && decide (j ≤ n - 1)) = false := nt_ d
          unfold isDiag
          rw [show (decide (0 ≤ (i, j).2) && decide ((i, j).2 ≤ n - 1)) = false from d', Bool.false_and, Bool.and_false]
        rw [e] at q
        exact q
      · have d' : (decide (0 ≤ j) && decide (j ≤ n - 1)) = true := nf_ d
        have e : isDiag n (i, j) = (decide (2 ≤ j - i) && decide (j - i ≤ n - 2)) := by
          unfold isDiag
          rw [show (decide (0 ≤ (i, j).1) && decide ((i, j).1 ≤ n - 1)) = true from c', show (decide (0 ≤ (i, j).2) && decide ((i, j).2 ≤ n - 1)) = true from d', Bool.true_and, Bool.true_and]
        rw [e] at q
        refine ⟨_, rfl, a, _, _, _, rfl, rfl, SqT.of ha', i1, _, rfl, a, _, _, _, rfl, rfl, SqT.of ha', i0, _, _, rfl, rfl, _, _, rfl, rfl, _, rfl, ite2 (fun x => ?_) (fun x => ?_)⟩
        · refine ⟨_, rfl, _, _, rfl, rfl, _, _, rfl, rfl, ?_⟩
          rw [show decide (2 ≤ j - i) = true from x, Bool.true_and] at q
          exact q
        · rw [show decide (2 ≤ j - i) = false from by simpa using x, Bool.false_and] at q
          exact q
/-! ### are_crossing -/
abbrev sCross : Stmt := top 12
def crossB (p q : P2) : Bool := (decide (p.1 < q.1) && (decide (q.1 < p.2) && decide (p.2 < q.2))) || (decide (q.1 < p.1) && (decide (p.1 < q.2) && decide (q.2 < p.2)))
def spCross : Sp := fun vs H Q _ => ∃ (v u : V) (p q : P2), vs = [v, u] ∧ Pr H v p ∧ Pr H u q ∧ Q (.bl (crossB p q)) H
theorem scCross : FnScope ["one", "other"] ["one", "other"] (defScope sCross) := ⟨rfl, rfl, rfl, by decide +kernel, rfl, by decide +kernel, by decide +kernel⟩
/-- a < b < c < d, its value -/
theorem chain_val {a b c d : Int} {G : Prop} (h : (decide (a < b) && (decide (b < c) && decide (c < d))) = true → G) (k : (decide (a < b) && (decide (b < c) && decide (c < d))) = false → G) : G := by
  cases e : (decide (a < b) && (decide (b < c) && decide (c < d))) with
  | true => exact h e
  | false => exact k e
theorem ok_cross {f : Addr} {fd : FuncData} (D : Df K mg "are_crossing" sCross f fd) : Has P w K mg base CX0 1 "are_crossing" ["one", "other"] spCross := by
  refine has_of D (D.fn.ok scCross (fun vs H Q E h => ?_) (fun cdv A outer s H vs Q E hr h => ?_)) (D.fn.binds fun _ _ _ _ _ _ us hl => match us, hl with | [_, _], _ => rfl)
  · obtain ⟨v, u, p, q, rfl, _⟩ := h
    rfl
  · obtain ⟨v, u, ⟨i, j⟩, ⟨k, l⟩, rfl, ⟨a, rfl, ha⟩, ⟨b, rfl, hb⟩, Z⟩ := h
    have ha' : H a = some (.tup [.int i, .int j]) := ha
    have hb' : H b = some (.tup [.int k, .int l]) := hb
    have a0 : atI [V.int i, V.int j] 0 = some (.int i) := rfl
    have a1 : atI [V.int i, V.int j] 1 = some (.int j) := rfl
    have b0 : atI [V.int k, V.int l] 0 = some (.int k) := rfl
    have b1 : atI [V.int k, V.int l] 1 = some (.int l) := rfl
    refine ⟨_, pss_one (ps_ret (pe_or (pe_chain3 op_lt op_lt op_lt (pe_ix ix_tup (pv 0) pe_int (fun _ _ => rfl)) (pe_ix ix_tup (pv 1) pe_int (fun _ _ => rfl)) (pe_ix ix_tup (pv 0) pe_int (fun _ _ => rfl)) (pe_ix ix_tup (pv 1) pe_int (fun _ _ => rfl)))
      (pe_one (pe_chain3 op_lt op_lt op_lt (pe_ix ix_tup (pv 1) pe_int (fun _ _ => rfl)) (pe_ix ix_tup (pv 0) pe_int (fun _ _ => rfl)) (pe_ix ix_tup (pv 1) pe_int (fun _ _ => rfl)) (pe_ix ix_tup (pv 0) pe_int (fun _ _ => rfl)))))), ?_⟩
    -- the second chain, where the first one is false
    have snd : (decide (i < k) && (decide (k < j) && decide (j < l))) = false → (tChain3 (rI0 fun i j => .bl (decide (i < j))) (rI0 fun i j => .bl (decide (i < j))) (rI0 fun i j => .bl (decide (i < j))) (tOp (rIxT K) (tVar 1) (tC (.int 0))) (tOp (rIxT K) (tVar 0) (tC (.int 0)))
        (tOp (rIxT K) (tVar 1) (tC (.int 1))) (tOp (rIxT K) (tVar 0) (tC (.int 1)))) (start ["one", "other"] [.ref a, .ref b]) H Q := by
      intro e1
      have Z2 : Q (.bl (decide (k < i) && (decide (i < l) && decide (l < j)))) H := by
        have e : crossB (i, j) (k, l) = (decide (k < i) && (decide (i < l) && decide (l < j))) := by
          unfold crossB
          rw [show (decide ((i, j).1 < (k, l).1) && (decide ((k, l).1 < (i, j).2) && decide ((i, j).2 < (k, l).2))) = false from e1, Bool.false_or]
        rw [e] at Z
        exact Z
      refine ⟨_, rfl, b, _, _, _, rfl, rfl, SqT.of hb', b0, _, rfl, a, _, _, _, rfl, rfl, SqT.of ha', a0, _, _, rfl, rfl, _, rfl, ite2 (fun x => ?_) (fun x => ?_)⟩
      · rw [show decide (k < i) = true from x, Bool.true_and] at Z2
        refine ⟨_, rfl, b, _, _, _, rfl, rfl, SqT.of hb', b1, _, _, rfl, rfl, _, rfl, ite2 (fun y => ?_) (fun y => ?_)⟩
        · rw [show decide (i < l) = true from y, Bool.true_and] at Z2
          exact ⟨_, rfl, a, _, _, _, rfl, rfl, SqT.of ha', a1, _, _, rfl, rfl, Z2⟩
        · rw [show decide (i < l) = false from Bool.eq_false_iff.mpr y, Bool.false_and] at Z2
          exact Z2
      · rw [show decide (k < i) = false from Bool.eq_false_iff.mpr x, Bool.false_and] at Z2
        exact Z2
    refine ⟨_, rfl, a, _, _, _, rfl, rfl, SqT.of ha', a0, _, rfl, b, _, _, _, rfl, rfl, SqT.of hb', b0, _, _, rfl, rfl, _, rfl, ite2 (fun x => ?_) (fun x => ?_)⟩
    · refine ⟨_, rfl, a, _, _, _, rfl, rfl, SqT.of ha', a1, _, _, rfl, rfl, _, rfl, ite2 (fun y => ?_) (fun y => ?_)⟩
      · refine ⟨_, rfl, b, _, _, _, rfl, rfl, SqT.of hb', b1, _, _, rfl, rfl, _, rfl, ite2 (fun z => ?_) (fun z => ?_)⟩
        · have e : crossB (i, j) (k, l) = true := by
            unfold crossB
            rw [show decide ((i, j).1 < (k, l).1) = true from x, show decide ((k, l).1 < (i, j).2) = true from y, show decide ((i, j).2 < (k, l).2) = true from z]
            rfl
          rw [e] at Z
          exact Z
        · exact snd (by rw [show decide (j < l) = false from Bool.eq_false_iff.mpr z, Bool.and_false, Bool.and_false])
      · exact ⟨_, rfl, iteF (snd (by rw [show decide (k < j) = false from Bool.eq_false_iff.mpr y, Bool.false_and, Bool.and_false]))⟩
    · exact ⟨_, rfl, iteF (snd (by rw [show decide (i < k) = false from Bool.eq_false_iff.mpr x, Bool.false_and]))⟩
/-! ### are_joined -/
abbrev sJoin : Stmt := top 14
def joinB (n : Int) (c : List P2) (i j : Int) : Bool := (decide ((i + 1).fmod n = j) || decide ((j + 1).fmod n = i)) || (decide ((i, j) ∈ c) || decide ((j, i) ∈ c))
def spJoin : Sp := fun vs H Q _ => ∃ (n : Int) (v : V) (c : List P2) (i j : Int), vs = [.int n, v, .int i, .int j] ∧ 0 < n ∧ Ct H v c ∧ ∀ H', Same H H' → Q (.bl (joinB n c i j)) H'
theorem scJoin : FnScope ["corners", "diagonals", "one", "other"] ["corners", "diagonals", "one", "other"] (defScope sJoin) := ⟨rfl, rfl, rfl, by decide +kernel, rfl, by decide +kernel, by decide +kernel⟩
theorem ok_join {f : Addr} {fd : FuncData} (D : Df K mg "are_joined" sJoin f fd) : Has P w K mg base CX0 1 "are_joined" ["corners", "diagonals", "one", "other"] spJoin := by
  refine has_of D (D.fn.ok scJoin (fun vs H Q E h => ?_) (fun cdv A outer s H vs Q E hr h => ?_)) (D.fn.binds fun _ _ _ _ _ _ us hl => match us, hl with | [_, _, _, _], _ => rfl)
  · obtain ⟨n, v, c, i, j, rfl, _⟩ := h
    rfl
  · obtain ⟨n, v, c, i, j, rfl, hn, hc, Z⟩ := h
    have n0 : n ≠ 0 := by omega
    refine ⟨_, pss_cons (ps_if (PW.pt (pw_or (pt_cmpR op_eq (pe_op op_modN (pe_op op_add (pv 2) pe_int) (pv 0)) (pv 3) (nomark _)) (pw_or1 (pt_cmpR op_eq (pe_op op_modN (pe_op op_add (pv 3) pe_int) (pv 0)) (pv 2) (nomark _))))) (pss_one (ps_ret pe_bl)) pss_nil)
      (pss_one (ps_ret (pe_or (pe_cmpR (op_inC hr.units) (pe_tup (pa_cons (pv 2) (pa_cons (pv 3) pa_nil))) (pv 1) rfl) (pe_one (pe_cmpR (op_inC hr.units) (pe_tup (pa_cons (pv 3) (pa_cons (pv 2) pa_nil))) (pv 1) rfl))))), ?_⟩
    refine ⟨_, rfl, _, _, rfl, rfl, _, rfl, _, _, rfl, rfl, n0, _, rfl, rfl, _, rfl, ?_⟩
    rw [dec_int, Bool.beq_eq_decide_eq]
    refine ite2 (fun x => ?_) (fun x => ?_)
    · refine iteT ?_
      have e : joinB n c i j = true := by
        unfold joinB
        rw [show decide ((i + 1).fmod n = j) = true from by simpa using x]; rfl
      exact e ▸ Z H (Same.refl H)
    · have x' : decide ((i + 1).fmod n = j) = false := by simpa using x
      refine ⟨_, rfl, _, _, rfl, rfl, _, rfl, _, _, rfl, rfl, n0, _, rfl, rfl, _, rfl, ?_⟩
      rw [dec_int, Bool.beq_eq_decide_eq]
      refine ite2 (fun y => ?_) (fun y => ?_)
      · have e : joinB n c i j = true := by
          unfold joinB
          rw [show decide ((j + 1).fmod n = i) = true from by simpa using y, Bool.or_true]; rfl
        exact e ▸ Z H (Same.refl H)
      · have y' : decide ((j + 1).fmod n = i) = false := by simpa using y
        have e0 : joinB n c i j = (decide ((i, j) ∈ c) || decide ((j, i) ∈ c)) := by
          unfold joinB
          rw [x', y', Bool.or_false, Bool.false_or]
        refine ⟨_, rfl, _, rfl, (by show 2 ≤ sizeLine; decide), fun t ht => ⟨_, rfl, (i, j), c, ⟨t, rfl, upd_same⟩, Ct.mono _ _ _ _ (ts_new ht) hc, _, rfl, ite2 (fun z => ?_) (fun z => ?_)⟩⟩
        · rw [show decide ((i, j) ∈ c) = true from z, Bool.true_or] at e0
          exact e0 ▸ Z _ (same_new (Same.refl H) ht)
        · rw [show decide ((i, j) ∈ c) = false from Bool.eq_false_iff.mpr z, Bool.false_or] at e0
          refine ⟨_, rfl, _, rfl, (by show 2 ≤ sizeLine; decide), fun t2 ht2 => ⟨_, rfl, (j, i), c, ⟨t2, rfl, upd_same⟩, Ct.mono _ _ _ _ (ts_new ht2) (Ct.mono _ _ _ _ (ts_new ht) hc), ?_⟩⟩
          exact e0 ▸ Z _ (same_new (same_new (Same.refl H) ht) ht2)
end
end Fs
/-! Flipsheets, defs 2: triangles_of. -/
namespace Fs
open PySem L2 PySem.Spec PyProof.Rows
section
variable
  {P : Program}
  {w : World} {K : PySem.W.Frag} {mg : Str → Option Value} {base : Heap}
/-! ### the triples -/
abbrev T3 := Nat × Nat × Nat
def tri1 (n : Nat) (c : List P2) (t : T3) : Bool := joinB n c t.1 t.2.1 && (joinB n c t.2.1 t.2.2 && joinB n c t.1 t.2.2)
def triH (n : Nat) (c : List P2) (l m k : Nat) : List T3 := ((List.range k).map fun t => (l, m, m + 1 + t)).filter (tri1 n c)
def triM (n : Nat) (c : List P2) (l k : Nat) : List T3 := (List.range k).flatMap fun t => triH n c l (l + 1 + t) (n - (l + 1 + t + 1))
def triL (n : Nat) (c : List P2) (k : Nat) : List T3 := (List.range k).flatMap fun l => triM n c l (n - (l + 1))
def tris (n : Nat) (c : List P2) : List T3 := triL n c n
theorem triH_succ (n : Nat) (c : List P2) (l m k : Nat) : triH n c l m (k + 1) = triH n c l m k ++ (if tri1 n c (l, m, m + 1 + k) = true then [(l, m, m + 1 + k)] else []) := by
  unfold triH
  rw [List.range_succ, List.map_append, List.filter_append]
  congr 1
  rw [List.map_singleton, List.filter_cons, List.filter_nil]
theorem triM_succ (n : Nat) (c : List P2) (l k : Nat) : triM n c l (k + 1) = triM n c l k ++ triH n c l (l + 1 + k) (n - (l + 1 + k + 1)) := by
  unfold triM
  rw [List.range_succ, List.flatMap_append, List.flatMap_singleton]
theorem triL_succ (n : Nat) (c : List P2) (k : Nat) : triL n c (k + 1) = triL n c k ++ triM n c k (n - (k + 1)) := by
  unfold triL
  rw [List.range_succ, List.flatMap_append, List.flatMap_singleton]
/-- v is the triple t -/
def Tr (H : Hp) (v : V) (t : T3) : Prop := Tp H v [(t.1 : Int), (t.2.1 : Int), (t.2.2 : Int)]
theorem Tr.mono : Mono Tr := fun H H' v _ s h => Tp.mono H H' v _ s h
theorem triH_len (n : Nat) (c : List P2) (l m k : Nat) : (triH n c l m k).length ≤ k := by
  unfold triH
  exact Nat.le_trans (List.length_filter_le _ _) (by rw [List.length_map, List.length_range]; exact Nat.le_refl _)
theorem triM_len (n : Nat) (c : List P2) (l : Nat) : ∀ k, (triM n c l k).length ≤ k * n
  | 0 => Nat.zero_le _
  | k + 1 => by
    rw [triM_succ, List.length_append]
    have h1 := triM_len n c l k
    have h2 := triH_len n c l (l + 1 + k) (n - (l + 1 + k + 1))
    rw [Nat.add_mul]
    omega
theorem triL_len (n : Nat) (c : List P2) : ∀ k, (triL n c k).length ≤ k * (n * n)
  | 0 => Nat.zero_le _
  | k + 1 => by
    rw [triL_succ, List.length_append]
    have h1 := triL_len n c k
    have h2 := triM_len n c k (n - (k + 1))
    have h3 : (n - (k + 1)) * n ≤ n * n := Nat.mul_le_mul_right _ (Nat.sub_le _ _)
    rw [Nat.add_mul]
    omega
theorem tri_small {n l m k h : Nat} (c : List P2) (hn : n ≤ 7) (hl : l ≤ 7) (hm : m ≤ 7) (hk : k ≤ 7) : (triL n c l ++ triM n c l m ++ triH n c l h k).length ≤ 1000 := by
  rw [List.length_append, List.length_append]
  have h1 := triL_len n c l
  have h2 := triM_len n c l m
  have h3 := triH_len n c l h k
  have a1 : l * (n * n) ≤ 7 * (7 * 7) := Nat.mul_le_mul hl (Nat.mul_le_mul hn hn)
  have a2 : m * n ≤ 7 * 7 := Nat.mul_le_mul hm hn
  omega
/-! ### the lists of ones that the comprehensions with a test make -/
/-- [1 for ..] -/
def Ones (H : Hp) (D : Addr) (k : Nat) : Prop := H D = some (.lst (List.replicate k (V.int 1)))
theorem ones_snoc (k : Nat) : List.replicate k (V.int 1) ++ [V.int 1] = List.replicate (k + 1) (V.int 1) := (List.replicate_succ' (n := k) (a := V.int 1)).symm
theorem dpall_ones {H : Hp} : ∀ k : Nat, DpAll K H (List.replicate k (V.int 1)) (List.replicate k (.int 1))
  | 0 => .nil
  | k + 1 => .cons (.int 1) (dpall_ones k)
theorem eqv_ones (k : Nat) : PyData.eqv (.list (List.replicate k (.int 1))) (.list []) = decide (k = 0) := by
  cases k with
  | zero => simp [PyData.eqv, PyData.eqvAll]
  | succ k => simp [List.replicate_succ, PyData.eqv, PyData.eqvAll]
theorem plain_ones : ∀ k : Nat, PyData.plainAll (List.replicate k (.int 1)) = true
  | 0 => by simp [PyData.plainAll]
  | k + 1 => by rw [List.replicate_succ, PyData.plainAll, plain_ones k]; simp [PyData.plain]
theorem depth_ones : ∀ k : Nat, PyData.depthAll (List.replicate k (.int 1)) = 0
  | 0 => by simp [PyData.depthAll]
  | k + 1 => by rw [List.replicate_succ, PyData.depthAll, depth_ones k]; simp [PyData.depth]
/-- [1, ..] == [] -/
theorem ones_eq {H : Hp} {D p : Addr} {k : Nat} {Q : VK} (h : Ones H D k) (hp : H p = some (.lst [])) (q : Q (.bl (decide (k = 0))) H) :
    ∃ d e, Dp K H (.ref D) d ∧ Dp K H (.ref p) e ∧ d.plain = true ∧ e.plain = true ∧ d.depth ≤ 60 ∧ Q (.bl (PyData.eqv d e)) H := by
  refine ⟨.list (List.replicate k (.int 1)), .list [], .lst (SqL.of h) (dpall_ones k), .lst (SqL.of hp) .nil, by simp only [PyData.plain]; exact plain_ones k, by simp [PyData.plain, PyData.plainAll], by simp only [PyData.depth]; rw [depth_ones]; decide, ?_⟩
  rw [eqv_ones]
  exact q
def rOnesEq : R2 := fun x y H Q => ∃ D p k, x = .ref D ∧ y = .ref p ∧ Ones H D k ∧ H p = some (.lst []) ∧ Q (.bl (decide (k = 0))) H
def rOnesNe : R2 := fun x y H Q => ∃ D p k, x = .ref D ∧ y = .ref p ∧ Ones H D k ∧ H p = some (.lst []) ∧ Q (.bl (!decide (k = 0))) H
theorem op_onesEq {X : Cx} (hu : X.A.units + 64 < cLine) : OpR X (compareOp .Eq) rOnesEq := by
  intro pns s σ H x y v u Q I rx ry h
  obtain ⟨D, p, k, rfl, rfl, h1, h2, q⟩ := h
  exact op_eqQ hu pns s σ H _ _ v u Q I rx ry (ones_eq h1 h2 q)
theorem op_onesNe {X : Cx} (hu : X.A.units + 64 < cLine) : OpR X (compareOp .NotEq) rOnesNe := by
  intro pns s σ H x y v u Q I rx ry h
  obtain ⟨D, p, k, rfl, rfl, h1, h2, q⟩ := h
  obtain ⟨d, e, a, b, c, d', e', q⟩ := ones_eq (K := X.K) (Q := fun x H => ∃ b, x = .bl b ∧ Q (.bl (!b)) H) h1 h2 ⟨_, rfl, q⟩
  obtain ⟨b', eb, q⟩ := q
  cases eb
  exact op_neQ hu pns s σ H _ _ v u Q I rx ry ⟨d, e, a, b, c, d', e', q⟩
/-- how many of the first i are bad -/
def cntB {α : Type} (bad : α → Bool) (l : List α) (i : Nat) : Nat := ((l.take i).filter bad).length
theorem take_succ' {α : Type} : ∀ {l : List α} {i : Nat} {x : α}, l[i]? = some x → l.take (i + 1) = l.take i ++ [x]
  | [], i, x, h => by simp at h
  | a :: l, 0, x, h => by
    have e : a = x := Option.some.inj h
    subst e; rfl
  | a :: l, i + 1, x, h => by
    have ih := take_succ' (l := l) (i := i) (x := x) h
    show a :: l.take (i + 1) = a :: l.take i ++ [x]
    rw [ih]; rfl
theorem cntB_succ {α : Type} {bad : α → Bool} {l : List α} {i : Nat} {x : α} (h : l[i]? = some x) : cntB bad l (i + 1) = cntB bad l i + (if bad x = true then 1 else 0) := by
  unfold cntB
  rw [take_succ' h, List.filter_append, List.length_append]
  congr 1
  cases e : bad x <;> simp [e]
theorem cntB_le {α : Type} {bad : α → Bool} {l : List α} {i : Nat} : cntB bad l i ≤ l.length := by
  unfold cntB
  refine Nat.le_trans (List.length_filter_le _ _) ?_
  rw [List.length_take]; omega
theorem cntB_none {α : Type} {bad : α → Bool} {l : List α} : decide (cntB bad l l.length = 0) = l.all fun x => !bad x := by
  unfold cntB
  rw [List.take_length]
  induction l with
  | nil => rfl
  | cons x l ih =>
    rw [List.all_cons, ← ih, List.filter_cons]
    cases e : bad x <;> simp
theorem LsOf.snoc {β : Type} {R : Hp → V → β → Prop} (m : Mono R) {H : Hp} {p : Addr} {vs : List V} {bs : List β} {v : V} {b : β} (h : H p = some (.lst vs)) (pr : Paired (R H) vs bs) (r : R H v b) : LsOf R (upd H p (.lst (vs ++ [v]))) p (bs ++ [b]) :=
  ⟨_, upd_same, paired_app (pair_mono m (ts_lst h) pr) (paired_one (m _ _ _ _ (ts_lst h) r))⟩
/-- a new place leaves what was told -/
theorem kept1 {H : Hp} {p b : Addr} {o u : HO} (h : H p = none) (e : H b = some u) : upd H p o b = some u := same_new (Same.refl H) h b u e
theorem LsOf.new {β : Type} {R : Hp → V → β → Prop} {H : Hp} {p : Addr} : LsOf R (upd H p (.lst [])) p ([] : List β) := ⟨[], upd_same, .nil⟩
/-! ### triangles_of -/
abbrev sTris : Stmt := top 15
def spTris : Sp := fun vs H Q _ => ∃ (n : Nat) (v : V) (c : List P2), vs = [.int n, v] ∧ 0 < n ∧ n ≤ 7 ∧ Ct H v c ∧ ∀ H' p, Same H H' → H p = none → LsOf Tr H' p (tris n c) → Q (.ref p) H'
theorem scTris : FnScope ["corners", "diagonals", "found", "low", "middle", "high", "pairs", "one", "other"] ["corners", "diagonals"] (defScope sTris) := ⟨rfl, rfl, rfl, by decide +kernel, rfl, by decide +kernel, by decide +kernel⟩
theorem ok_tris {f : Addr} {fd : FuncData} (B : Blt mg) (GJ : Has P w K mg base CX0 1 "are_joined" ["corners", "diagonals", "one", "other"] spJoin) (D : Df K mg "triangles_of" sTris f fd) : Has P w K mg base CX0 2 "triangles_of" ["corners", "diagonals"] spTris := by
  refine has_of D (D.fn.ok scTris (fun vs H Q E h => ?_) (fun cdv A outer s H vs Q E hr h => ?_)) (D.fn.binds fun _ _ _ _ _ _ us hl => match us, hl with | [_, _], _ => rfl)
  · obtain ⟨n, v, c, rfl, _⟩ := h
    rfl
  · obtain ⟨n, v, c, rfl, hn, hn7, hc, Z⟩ := h
    refine ⟨_, pss_cons (ps_set (i := 2) scTris.nd rfl (.inl rfl) (pe_lst pa_nil))
      (pss_cons (ps_for PassesOwn.never rfl (pi_range1 (by rfl) B.range (pa_cons (pv 0) pa_nil)) (pg_name (i := 3) scTris.nd rfl (.inl rfl))
        (pss_one (ps_for PassesOwn.never rfl (pi_range2 (by rfl) B.range (pa_cons (pe_op op_add (pv 3) pe_int) (pa_cons (pv 0) pa_nil))) (pg_name (i := 4) scTris.nd rfl (.inl rfl))
          (pss_one (ps_for PassesOwn.never rfl (pi_range2 (by rfl) B.range (pa_cons (pe_op op_add (pv 4) pe_int) (pa_cons (pv 0) pa_nil))) (pg_name (i := 5) scTris.nd rfl (.inl rfl))
            (pss_cons (ps_set (i := 6) scTris.nd rfl (.inl rfl) (pe_tup (pa_cons (pe_tup (pa_cons (pv 3) (pa_cons (pv 4) pa_nil))) (pa_cons (pe_tup (pa_cons (pv 4) (pa_cons (pv 5) pa_nil))) (pa_cons (pe_tup (pa_cons (pv 3) (pa_cons (pv 5) pa_nil))) pa_nil)))))
              (pss_one (ps_if (pt_cmpR (op_onesEq hr.units) (pe_lc (own := [("one", 7), ("other", 8)]) (g := gTup K 2 (gCons (gName 7) (gCons (gName 8) gNil))) rfl scTris.nd (pi_tup (pv 6)) (blkOk_by (N := ["corners", "diagonals", "found", "low", "middle", "high", "pairs", "one", "other"]) (sc := defScope sTris) (by decide +kernel))
                  (fun _ _ _ _ _ => pg_tup rfl (pgs_cons (pg_name (i := 7) scTris.nd rfl (Or.inl rfl)) (pgs_cons (pg_name (i := 8) scTris.nd rfl (Or.inl rfl)) pgs_nil)))
                  (fun _ _ _ _ _ => pts_one (pt_not (pt_val (pe_has GJ hr rfl pass0 (pa_cons (pv 0) (pa_cons (pv 1) (pa_cons (pv 7) (pa_cons (pv 8) pa_nil))))))))
                  (fun _ _ _ _ _ => pe_int)) (pe_lst pa_nil) (nomark _))
                (pss_one (ps_expr (pe_bm PySem.F.plainAttrs_list PySem.F.slot_list_append PySem.F.type_list_append mt_append (pv 2) (pa_cons (pe_tup (pa_cons (pv 3) (pa_cons (pv 4) (pa_cons (pv 5) pa_nil)))) pa_nil))))
                pss_nil)))))))) 
      (pss_one (ps_ret (pv 2)))), ?_⟩
    refine ⟨Nat.zero_le _, fun p hp => ?_⟩
    refine ⟨_, rfl, (n : Int), rfl, by omega, by omega, for_range (lo := 0) (n := (n : Int).toNat) (fun i σ H' => ∃ s3 s4 s5 s6, σ = [some (.int n), some v, some (.ref p), s3, s4, s5, s6, none, none] ∧ Same H H' ∧ LsOf Tr H' p (triL n c i)) ⟨none, none, none, none, rfl, same_new (Same.refl H) hp, LsOf.new⟩ ?_ ?_⟩
    · rintro l σ H1 hl ⟨s3, s4, s5, s6, rfl, sm1, ls1⟩
      have hl' : l < n := by simpa using hl
      have e2 : ((n : Int) - (0 + (l : Int) + 1)).toNat = n - (l + 1) := by omega
      refine ⟨_, rfl, _, _, rfl, rfl, _, rfl, _, _, rfl, ⟨by omega, by omega, by omega, by omega⟩, for_range (lo := 0 + (l : Int) + 1) (n := ((n : Int) - (0 + (l : Int) + 1)).toNat)
        (fun i σ H' => ∃ s4 s5 s6, σ = [some (.int n), some v, some (.ref p), some (.int (0 + (l : Int))), s4, s5, s6, none, none] ∧ Same H H' ∧ LsOf Tr H' p (triL n c l ++ triM n c l i)) ⟨s4, s5, s6, rfl, sm1, by
          have e : triL n c l ++ triM n c l 0 = triL n c l := List.append_nil _
          rw [e]; exact ls1⟩ ?_ ?_⟩
      · rintro m σ H2 hm ⟨s4, s5, s6, rfl, sm2, ls2⟩
        rw [e2] at hm
        have e3 : ((n : Int) - (0 + (l : Int) + 1 + (m : Int) + 1)).toNat = n - (l + 1 + m + 1) := by omega
        refine ⟨_, rfl, _, _, rfl, rfl, _, rfl, _, _, rfl, ⟨by omega, by omega, by omega, by omega⟩, for_range (lo := 0 + (l : Int) + 1 + (m : Int) + 1) (n := ((n : Int) - (0 + (l : Int) + 1 + (m : Int) + 1)).toNat)
          (fun i σ H' => ∃ s5 s6, σ = [some (.int n), some v, some (.ref p), some (.int (0 + (l : Int))), some (.int (0 + (l : Int) + 1 + (m : Int))), s5, s6, none, none] ∧ Same H H' ∧ LsOf Tr H' p (triL n c l ++ triM n c l m ++ triH n c l (l + 1 + m) i)) ⟨s5, s6, rfl, sm2, by
            have e : triL n c l ++ triM n c l m ++ triH n c l (l + 1 + m) 0 = triL n c l ++ triM n c l m := List.append_nil _
            rw [e]; exact ls2⟩ ?_ ?_⟩
        · rintro k σ H3 hk ⟨s5, s6, rfl, sm3, ls3⟩
          rw [e3] at hk
          -- pairs = ((low, middle), (middle, high), (low, high))
          refine ⟨_, rfl, _, rfl, (by show 2 ≤ sizeLine; decide), fun t1 h1 => ?_⟩
          refine ⟨_, rfl, _, rfl, (by show 2 ≤ sizeLine; decide), fun t2 h2 => ?_⟩
          refine ⟨_, rfl, _, rfl, (by show 2 ≤ sizeLine; decide), fun t3 h3 => ?_⟩
          refine ⟨(by show 3 ≤ sizeLine; decide), fun t4 h4 => ?_⟩
          have g1 := kept1 (o := .tup [.ref t1, .ref t2, .ref t3]) h4 (kept1 h3 (kept1 h2 upd_same))
          have g2 := kept1 (o := .tup [.ref t1, .ref t2, .ref t3]) h4 (kept1 h3 upd_same)
          have g3 := kept1 (o := .tup [.ref t1, .ref t2, .ref t3]) h4 upd_same
          have sm4 := same_new (o := .tup [.ref t1, .ref t2, .ref t3]) (same_new (same_new (same_new (Same.refl H3) h1) h2) h3) h4
          have g4 := upd_same (H := upd (upd (upd H3 t1 (.tup [.int (0 + (l : Int)), .int (0 + (l : Int) + 1 + (m : Int))])) t2 (.tup [.int (0 + (l : Int) + 1 + (m : Int)), .int (0 + (l : Int) + 1 + (m : Int) + 1 + (k : Int))])) t3 (.tup [.int (0 + (l : Int)), .int (0 + (l : Int) + 1 + (m : Int) + 1 + (k : Int))])) (a := t4) (o := .tup [.ref t1, .ref t2, .ref t3])
          generalize upd (upd (upd (upd H3 t1 (.tup [.int (0 + (l : Int)), .int (0 + (l : Int) + 1 + (m : Int))])) t2 (.tup [.int (0 + (l : Int) + 1 + (m : Int)), .int (0 + (l : Int) + 1 + (m : Int) + 1 + (k : Int))])) t3 (.tup [.int (0 + (l : Int)), .int (0 + (l : Int) + 1 + (m : Int) + 1 + (k : Int))])) t4 (.tup [.ref t1, .ref t2, .ref t3]) = H4 at *
          generalize hi3 : (0 + (l : Int) + 1 + (m : Int) + 1 + (k : Int)) = i3 at *
          generalize hi2 : (0 + (l : Int) + 1 + (m : Int)) = i2 at *
          generalize hi1 : (0 + (l : Int)) = i1 at *
          clear h1 h2 h3 h4
          have hps : Paired (Pr H4) [.ref t1, .ref t2, .ref t3] [(i1, i2), (i2, i3), (i1, i3)] := .cons ⟨t1, rfl, g1⟩ (.cons ⟨t2, rfl, g2⟩ (.cons ⟨t3, rfl, g3⟩ .nil))
          have hcj : tri1 n c (l, l + 1 + m, l + 1 + m + 1 + k) = decide (cntB (fun q : P2 => !joinB n c q.1 q.2) [(i1, i2), (i2, i3), (i1, i3)] 3 = 0) := by
            have z := cntB_none (bad := fun q : P2 => !joinB n c q.1 q.2) (l := [(i1, i2), (i2, i3), (i1, i3)])
            rw [show ([(i1, i2), (i2, i3), (i1, i3)] : List P2).length = 3 from rfl] at z
            rw [z]
            have q1 : ((l : Nat) : Int) = i1 := by omega
            have q2 : ((l + 1 + m : Nat) : Int) = i2 := by omega
            have q3 : ((l + 1 + m + 1 + k : Nat) : Int) = i3 := by omega
            unfold tri1
            simp only [List.all_cons, List.all_nil, Bool.not_not, Bool.and_true, q1, q2, q3]
          refine ⟨_, rfl, t4, rfl, ⟨_, SqT.of g4⟩, fun D hD => lc_tup (K := K) (a := t4) (xs := [.ref t1, .ref t2, .ref t3])
            (fun i H' => Same H4 H' ∧ Ones H' D (cntB (fun q : P2 => !joinB n c q.1 q.2) [(i1, i2), (i2, i3), (i1, i3)] i)) ⟨same_new (Same.refl H4) hD, upd_same⟩ (fun i H' _ s => SqT.of (s.1 _ _ g4)) ?_ ?_⟩
          · rintro i x H5 hi ⟨sm5, on5⟩
            obtain ⟨pq, hpq, hPr⟩ := L2.paired_get hps hi
            obtain ⟨tx, rfl, htx⟩ := hPr
            refine ⟨tx, _, rfl, SqT.of (sm5 _ _ htx), rfl, _, _, rfl, _, _, rfl, rfl, rfl, ?_⟩
            refine ⟨_, rfl, _, rfl, _, rfl, _, rfl, n, v, c, pq.1, pq.2, rfl, by omega, Ct.mono _ _ _ _ (same_ts (sm3.trans (sm4.trans sm5))) hc, fun H6 sm6 => ⟨_, rfl, ?_⟩⟩
            have hcl := cntB_le (bad := fun q : P2 => !joinB n c q.1 q.2) (l := [(i1, i2), (i2, i3), (i1, i3)]) (i := i)
            rw [cntB_succ hpq]
            refine ite2 (fun z => ?_) (fun z => ?_)
            · refine ⟨_, sm6 _ _ on5, (by rw [List.length_replicate, sizeLine_eq]; exact Nat.lt_of_le_of_lt hcl (show 3 < 16777216 by decide)), same_put (sm5.trans sm6) hD, ?_⟩
              rw [if_pos z, ones_snoc]
              exact upd_same
            · rw [if_neg z, Nat.add_zero]
              exact ⟨sm5.trans sm6, sm6 _ _ on5⟩
          · rintro H5 ⟨sm5, on5⟩
            refine ⟨Nat.zero_le _, fun q hq => ⟨_, _, _, rfl, rfl, kept1 hq on5, upd_same, _, rfl, ?_⟩⟩
            obtain ⟨vs, hv, pvs⟩ := ls3
            have sm6 : Same H3 (upd H5 q (.lst [])) := same_new (sm4.trans sm5) hq
            have hlen : vs.length ≤ 1000 := by
              rw [paired_len pvs]
              exact tri_small c hn7 (by omega) (by omega) (by omega)
            refine ite2 (fun z => ?_) (fun z => ?_)
            · refine ⟨_, rfl, .inl ⟨rfl, _, SqL.of (sm6 _ _ hv)⟩, ?_⟩
              refine ⟨_, rfl, _, rfl, _, rfl, (by show 3 ≤ sizeLine; decide), fun t5 h5 => ?_⟩
              have sm7 := same_new (o := .tup [.int i1, .int i2, .int i3]) sm6 h5
              refine ⟨p, _, _, rfl, rfl, sm7 _ _ hv, Nat.lt_of_le_of_lt hlen (by decide), ?_⟩
              refine ⟨_, _, rfl, same_put (sm3.trans sm7) hp, ?_⟩
              have q1 : ((l : Nat) : Int) = i1 := by omega
              have q2 : ((l + 1 + m : Nat) : Int) = i2 := by omega
              have q3 : ((l + 1 + m + 1 + k : Nat) : Int) = i3 := by omega
              rw [triH_succ, if_pos (hcj.trans z), ← List.append_assoc]
              exact LsOf.snoc Tr.mono (sm7 _ _ hv) (pair_mono Tr.mono (same_ts sm7) pvs) ⟨t5, rfl, by
                show _ = some (HO.tup [V.int ((l : Nat) : Int), V.int ((l + 1 + m : Nat) : Int), V.int ((l + 1 + m + 1 + k : Nat) : Int)])
                rw [q1, q2, q3]
                exact upd_same⟩
            · refine ⟨_, _, rfl, sm3.trans sm6, ?_⟩
              have z' : tri1 n c (l, l + 1 + m, l + 1 + m + 1 + k) = false := hcj.trans (Bool.eq_false_iff.mpr z)
              rw [triH_succ, if_neg (by rw [z']; exact Bool.false_ne_true), List.append_nil]
              exact ⟨vs, sm6 _ _ hv, pair_mono Tr.mono (same_ts sm6) pvs⟩
        · rintro σ H3 ⟨s5, s6, rfl, sm3, ls3⟩
          refine ⟨_, s5, s6, rfl, sm3, ?_⟩
          rw [e3] at ls3
          rw [triM_succ, ← List.append_assoc]
          exact ls3
      · rintro σ H2 ⟨s4, s5, s6, rfl, sm2, ls2⟩
        refine ⟨_, s4, s5, s6, rfl, sm2, ?_⟩
        rw [e2] at ls2
        rw [triL_succ]
        exact ls2
    · rintro σ H1 ⟨s3, s4, s5, s6, rfl, sm1, ls1⟩
      refine ⟨_, rfl, Z H1 p sm1 hp ?_⟩
      exact ls1
end
end Fs
/-! Flipsheets, base 3: one place changed, least ints, sorted pairs. -/
namespace Fs
open PySem L2 PySem.Spec PyProof.Rows
/-- all but e stays -/
def But (e : Addr) (H H' : Hp) : Prop := ∀ b o, b ≠ e → H b = some o → H' b = some o
theorem But.rf (e : Addr) (H : Hp) : But e H H := fun _ _ _ h => h
theorem But.tr {e : Addr} {H H1 H2 : Hp} (a : But e H H1) (b : But e H1 H2) : But e H H2 := fun c o n h => b c o n (a c o n h)
theorem But.of {e : Addr} {H H' : Hp} (s : Same H H') : But e H H' := fun b o _ h => s b o h
theorem But.new {e p : Addr} {H H' : Hp} {o : HO} (s : But e H H') (h : H' p = none) : But e H (upd H' p o) := fun b u n q => by
  rw [upd_ne (ne_of_none (s b u n q) h)]; exact s b u n q
theorem But.put {e : Addr} {H H' : Hp} {o : HO} (s : But e H H') : But e H (upd H' e o) := fun b u n q => by
  rw [upd_ne n]; exact s b u n q
theorem But.same {e : Addr} {H0 H H' : Hp} (s : Same H0 H) (he : H0 e = none) (b : But e H H') : Same H0 H' := fun c o q => b c o (ne_of_none q he) (s c o q)
theorem But.ts {e : Addr} {H H' : Hp} {xs : List V} (he : H e = some (.lst xs)) (b : But e H H') : TSm H H' := fun c ys q => b c _ (ne_of q he (by intro z; cases z)) q
theorem But.ts_ext {e : Addr} {H H' : Hp} {φ : Heap → Prop} (he : H e = some (.ext φ)) (b : But e H H') : TSm H H' := fun c ys q => b c _ (ne_of q he (by intro z; cases z)) q
/-! ### ints -/
theorem inV_int (x : Int) (ns : List Int) : inV (.int x) (ns.map V.int) = decide (x ∈ ns) := by
  unfold inV
  rw [List.any_map]
  by_cases h : x ∈ ns
  · rw [decide_eq_true h]
    exact List.any_eq_true.mpr ⟨x, h, beq_self_eq_true x⟩
  · rw [decide_eq_false h]
    refine List.any_eq_false.mpr fun y hy z => h ?_
    have e : (y == x) = true := z
    rw [← beq_iff_eq.mp e]; exact hy
theorem flat_ints (ns : List Int) : (ns.map V.int).all flatV = true := by
  rw [List.all_map]
  exact (List.all_eq_true.mpr fun _ _ => rfl)
def minI : List Int → Int
  | [] => 0
  | x :: xs => xs.foldl (fun a b => if b < a then b else a) x
def maxI : List Int → Int
  | [] => 0
  | x :: xs => xs.foldl (fun a b => if a < b then b else a) x
theorem minI_spec : ∀ (xs : List Int) (x : Int), (xs.foldl (fun a b => if b < a then b else a) x) ∈ x :: xs ∧ ∀ y ∈ x :: xs, (xs.foldl (fun a b => if b < a then b else a) x) ≤ y
  | [], x => ⟨List.mem_cons_self, fun y hy => by rw [List.mem_singleton.mp hy]; exact Int.le_refl _⟩
  | z :: xs, x => by
    obtain ⟨h1, h2⟩ := minI_spec xs (if z < x then z else x)
    rw [List.foldl_cons]
    have hm : (if z < x then z else x) = z ∨ (if z < x then z else x) = x := by split <;> simp
    have hle : (if z < x then z else x) ≤ z ∧ (if z < x then z else x) ≤ x := by split <;> omega
    refine ⟨?_, fun y hy => ?_⟩
    · rcases List.mem_cons.mp h1 with e | e
      · rw [e]
        rcases hm with m | m <;> rw [m] <;> simp
      · exact List.mem_cons_of_mem _ (List.mem_cons_of_mem _ e)
    · have h0 := h2 _ List.mem_cons_self
      rcases (List.mem_cons.mp hy) with e | hy
      · rw [e]; omega
      · rcases List.mem_cons.mp hy with e | hy
        · rw [e]; omega
        · exact h2 y (List.mem_cons_of_mem _ hy)
theorem maxI_spec : ∀ (xs : List Int) (x : Int), (xs.foldl (fun a b => if a < b then b else a) x) ∈ x :: xs ∧ ∀ y ∈ x :: xs, y ≤ (xs.foldl (fun a b => if a < b then b else a) x)
  | [], x => ⟨List.mem_cons_self, fun y hy => by rw [List.mem_singleton.mp hy]; exact Int.le_refl _⟩
  | z :: xs, x => by
    obtain ⟨h1, h2⟩ := maxI_spec xs (if x < z then z else x)
    rw [List.foldl_cons]
    have hm : (if x < z then z else x) = z ∨ (if x < z then z else x) = x := by split <;> simp
    have hle : z ≤ (if x < z then z else x) ∧ x ≤ (if x < z then z else x) := by split <;> omega
    refine ⟨?_, fun y hy => ?_⟩
    · rcases List.mem_cons.mp h1 with e | e
      · rw [e]
        rcases hm with m | m <;> rw [m] <;> simp
      · exact List.mem_cons_of_mem _ (List.mem_cons_of_mem _ e)
    · have h0 := h2 _ List.mem_cons_self
      rcases (List.mem_cons.mp hy) with e | hy
      · rw [e]; omega
      · rcases List.mem_cons.mp hy with e | hy
        · rw [e]; omega
        · exact h2 y (List.mem_cons_of_mem _ hy)
theorem minI_is {ns : List Int} {m : Int} (h : m ∈ ns) (k : ∀ y ∈ ns, m ≤ y) : m = minI ns := by
  cases ns with
  | nil => cases h
  | cons x xs =>
    obtain ⟨h1, h2⟩ := minI_spec xs x
    exact Int.le_antisymm (k _ h1) (h2 _ h)
theorem maxI_is {ns : List Int} {m : Int} (h : m ∈ ns) (k : ∀ y ∈ ns, y ≤ m) : m = maxI ns := by
  cases ns with
  | nil => cases h
  | cons x xs =>
    obtain ⟨h1, h2⟩ := maxI_spec xs x
    exact Int.le_antisymm (h2 _ h) (k _ h1)
/-! ### sorted pairs -/
def insP (p : P2) : List P2 → List P2
  | [] => [p]
  | q :: l => if ltP q p then q :: insP p l else p :: q :: l
def sortP : List P2 → List P2
  | [] => []
  | p :: l => insP p (sortP l)
theorem insP_perm (p : P2) : ∀ l, (insP p l).Perm (p :: l)
  | [] => .refl _
  | q :: l => by
    unfold insP
    split
    · exact ((insP_perm p l).cons q).trans (.swap p q l)
    · exact .refl _
theorem sortP_perm : ∀ l : List P2, (sortP l).Perm l
  | [] => .refl _
  | p :: l => (insP_perm p _).trans ((sortP_perm l).cons p)
def leP (p q : P2) : Prop := ¬ (ltP q p = true)
theorem ltP_iff {p q : P2} : ltP p q = true ↔ (p.1 < q.1 ∨ (p.1 = q.1 ∧ p.2 < q.2)) := by unfold ltP; exact decide_eq_true_iff
theorem leP_anti {p q : P2} (h : leP p q) (k : leP q p) : p = q := by
  unfold leP at h k
  rw [ltP_iff] at h k
  obtain ⟨a, b⟩ := p
  obtain ⟨c, d⟩ := q
  simp only [Prod.mk.injEq] at h k ⊢
  omega
theorem leP_trans {p q r : P2} (h : leP p q) (k : leP q r) : leP p r := by
  unfold leP at h k ⊢
  rw [ltP_iff] at h k ⊢
  omega
theorem insP_sorted {p : P2} : ∀ {l : List P2}, l.Pairwise leP → (insP p l).Pairwise leP
  | [], _ => List.pairwise_singleton _ _
  | q :: l, h => by
    rcases List.pairwise_cons.mp h with ⟨h1, h2⟩
    unfold insP
    split
    · rename_i c
      have hqp : leP q p := by unfold leP; rw [ltP_iff] at c ⊢; omega
      refine List.pairwise_cons.mpr ⟨fun x hx => ?_, insP_sorted h2⟩
      rcases List.mem_cons.mp ((insP_perm p l).mem_iff.mp hx) with e | hx
      · rw [e]; exact hqp
      · exact h1 x hx
    · rename_i c
      have hpq : leP p q := c
      refine List.pairwise_cons.mpr ⟨fun x hx => ?_, h⟩
      rcases (List.mem_cons.mp hx) with e | hx
      · rw [e]; exact hpq
      · exact leP_trans hpq (h1 x hx)
theorem sortP_sorted : ∀ l : List P2, (sortP l).Pairwise leP
  | [] => List.Pairwise.nil
  | p :: l => insP_sorted (sortP_sorted l)
theorem dataLe_dP : PySem.W.dataLe false dP = fun p q => !ltP q p := by
  rw [PySem.W.dataLe_eq]
  funext p q
  show (!PySem.W.dataLt (dP q) (dP p)) = _
  rw [lt_dP]
theorem mergeSort_dP (l : List P2) : l.mergeSort (PySem.W.dataLe false dP) = sortP l := by
  rw [dataLe_dP]
  have hs : (l.mergeSort fun p q => !ltP q p).Pairwise fun p q => (!ltP q p) = true := List.pairwise_mergeSort (fun a b c h1 h2 => by
    simp only [Bool.not_eq_true', ← Bool.not_eq_true] at h1 h2 ⊢
    exact leP_trans (p := a) (q := b) (r := c) h1 h2) (fun a b => by
    simp only [Bool.or_eq_true, Bool.not_eq_true', ← Bool.not_eq_true]
    rw [ltP_iff, ltP_iff]
    omega) l
  refine List.Perm.eq_of_pairwise (le := leP) (fun a b _ _ h1 h2 => leP_anti h1 h2) (hs.imp fun h => ?_) (sortP_sorted l) ((List.mergeSort_perm l _).trans (sortP_perm l).symm)
  unfold leP
  simpa using h
theorem allAlike_dP (l : List P2) : PySem.W.AllAlike (l.map dP) := PySem.W.AllAlike.of alike_dP
theorem sortable_dP (l : List P2) : PySem.W.Sortable (l.map dP) := PySem.W.Sortable.tuples fun p => ⟨_, _, rfl⟩
/-- sorted(xs) of a list of pairs -/
theorem call_sortedPr {X : Cx} (hu : X.A.units + 64 < cLine) : CallR X (.builtin "sorted") (fun xs H Q => ∃ a c, xs = [.ref a] ∧ LsOf Pr H a c ∧ ∀ p, H p = none → ∀ H', Same H H' → LsOf Pr H' p (sortP c) → Q (.ref p) H') := by
  intro pns s σ H xs us Q I r h
  obtain ⟨a, c, rfl, ⟨vs, ha, hp⟩, q⟩ := h
  refine call_sortedD Pr dP hu (fun H v b r => Pr.dp r) pns s σ H _ us Q I r ⟨a, vs, c, rfl, ha, hp, allAlike_dP c, sortable_dP c, fun b _ => by rw [depth_dP]; decide, fun p ys hn hy => ?_⟩
  rw [mergeSort_dP] at hy
  exact q p hn _ (same_new (Same.refl H) hn) ⟨ys, upd_same, pair_mono Pr.mono (ts_new hn) hy⟩
/-- tuple(xs) of a list of pairs -/
theorem call_tuplePr {X : Cx} : CallR X (.type "tuple") (fun xs H Q => ∃ a c, xs = [.ref a] ∧ LsOf Pr H a c ∧ ∀ H' v, Same H H' → Ct H' v c → Q v H') := by
  intro pns s σ H xs us Q I r h
  obtain ⟨a, c, rfl, ⟨vs, ha, hp⟩, q⟩ := h
  refine call_tuple_of pns s σ H _ us Q I r ⟨a, vs, rfl, .inl ⟨SqL.of ha, fun l hl => ?_⟩⟩
  exact q _ _ (same_new (Same.refl H) hl) ⟨l, vs, rfl, upd_same, pair_mono Pr.mono (ts_new hl) hp⟩
theorem filter_snoc {α : Type} {f : α → Bool} {l : List α} {i : Nat} {x : α} (h : l[i]? = some x) : (l.take (i + 1)).filter f = (l.take i).filter f ++ (if f x = true then [x] else []) := by
  rw [take_succ' h, List.filter_append]
  congr 1
  cases e : f x <;> simp [e]
end Fs
/-! Flipsheets, defs 3: flipped_cutting. -/
namespace Fs
open PySem L2 PySem.Spec PyProof.Rows
section
variable
  {P : Program}
  {w : World} {K : PySem.W.Frag} {mg : Str → Option Value} {base : Heap}
abbrev sFlip : Stmt := top 16
def triI (t : T3) : List Int := [(t.1 : Int), (t.2.1 : Int), (t.2.2 : Int)]
def hasD (d : P2) (t : T3) : Bool := decide (d.1 ∈ triI t) && decide (d.2 ∈ triI t)
def othD (d : P2) (t : T3) : List Int := (triI t).filter fun x => decide (x ∉ [d.1, d.2])
def endsF (d : P2) (ts : List T3) : List Int := (ts.filter (hasD d)).map fun t => (othD d t).headD 0
def keptP (c : List P2) (d : P2) : List P2 := c.filter fun q => decide (q ≠ d)
def flipM (n : Nat) (c : List P2) (d : P2) : List P2 := sortP (keptP c d ++ [(minI (endsF d (tris n c)), maxI (endsF d (tris n c)))])
/-- what the flip of d asks -/
def flipOk (n : Nat) (c : List P2) (d : P2) : Prop := (∀ t ∈ tris n c, hasD d t = true → othD d t ≠ []) ∧ endsF d (tris n c) ≠ []
def spFlip : Sp := fun vs H Q _ => ∃ (n : Nat) (v u : V) (c : List P2) (d : P2), vs = [.int n, v, u] ∧ 0 < n ∧ n ≤ 7 ∧ Ct H v c ∧ Pr H u d ∧ flipOk n c d ∧ c.length ≤ 100 ∧ ∀ H' r, Same H H' → Ct H' r (flipM n c d) → Q r H'
theorem scFlip : FnScope ["corners", "diagonals", "diagonal", "ends", "triangle", "kept", "corner", "other"] ["corners", "diagonals", "diagonal"] (defScope sFlip) := ⟨rfl, rfl, rfl, by decide +kernel, rfl, by decide +kernel, by decide +kernel⟩
theorem endsF_succ {d : P2} {ts : List T3} {i : Nat} {t : T3} (h : ts[i]? = some t) : endsF d (ts.take (i + 1)) = endsF d (ts.take i) ++ (if hasD d t = true then [(othD d t).headD 0] else []) := by
  unfold endsF
  rw [filter_snoc h, List.map_append]
  congr 1
  cases e : hasD d t <;> simp
theorem ok_flip {f : Addr} {fd : FuncData} (B : Blt mg) (GT : Has P w K mg base CX0 2 "triangles_of" ["corners", "diagonals"] spTris) (D : Df K mg "flipped_cutting" sFlip f fd) : Has P w K mg base CX0 3 "flipped_cutting" ["corners", "diagonals", "diagonal"] spFlip := by
  refine has_of D (D.fn.ok scFlip (fun vs H Q E h => ?_) (fun cdv A outer s H vs Q E hr h => ?_)) (D.fn.binds fun _ _ _ _ _ _ us hl => match us, hl with | [_, _, _], _ => rfl)
  · obtain ⟨n, v, u, c, d, rfl, _⟩ := h
    rfl
  · obtain ⟨n, v, u, c, d, rfl, hn, hn7, hc, hd, hok, hlen, Z⟩ := h
    refine ⟨_, pss_cons (ps_set (i := 3) scFlip.nd rfl (.inl rfl) (pe_lst pa_nil))
      (pss_cons (ps_for PassesOwn.never rfl (pi_list (pe_has GT hr rfl pass0 (pa_cons (pv 0) (pa_cons (pv 1) pa_nil)))) (pg_name (i := 4) scFlip.nd rfl (.inl rfl))
        (pss_one (ps_if (PW.pt (pw_and (pt_cmpR op_in_seq (pe_ix ix_tup (pv 2) pe_int (fun _ _ => rfl)) (pv 4) rfl) (pw_and1 (pt_cmpR op_in_seq (pe_ix ix_tup (pv 2) pe_int (fun _ _ => rfl)) (pv 4) rfl))))
          (pss_one (ps_expr (pe_bm PySem.F.plainAttrs_list PySem.F.slot_list_append PySem.F.type_list_append mt_append (pv 3) (pa_cons
            (pe_ix ix_list (pe_lc (own := [("corner", 6)]) (g := gName 6) rfl scFlip.nd (pi_tup (pv 4)) (blkOk_by (N := ["corners", "diagonals", "diagonal", "ends", "triangle", "kept", "corner", "other"]) (sc := defScope sFlip) (by decide +kernel))
              (fun _ _ _ _ _ => pg_name (i := 6) scFlip.nd rfl (Or.inl rfl)) (fun _ _ _ _ _ => pts_one (pt_cmpR (r := rIn K true) op_notIn_seq (pv 6) (pv 2) rfl)) (fun _ _ _ _ _ => pv 6)) pe_int (fun _ _ => rfl)) pa_nil)))) pss_nil)))
      (pss_cons (ps_setLc (i := 5) (own := [("other", 7)]) (g := gName 7) rfl scFlip.nd rfl rfl (sw_true rfl rfl rfl (by decide +kernel)) (pi_tup (pv 1)) (blkOk_by (N := ["corners", "diagonals", "diagonal", "ends", "triangle", "kept", "corner", "other"]) (sc := defScope sFlip) (by decide +kernel))
          (fun _ _ _ _ _ => pg_name (i := 7) scFlip.nd rfl (Or.inl rfl)) (fun _ _ _ _ _ => pts_one (pt_cmpR (op_neP hr.units) (pv 7) (pv 2) (nomark _))) (fun _ _ _ _ _ => pv 7))
      (pss_one (ps_ret (pe_callTy call_tuplePr (by rfl) B.tuple PyProof.Rows.boot_tuple (pa_cons (pe_callB (call_sortedPr hr.units) (by rfl) B.sorted PyProof.Rows.boot_sorted (pa_cons
        (pe_op op_cat (pv 5) (pe_lst (pa_cons (pe_tup (pa_cons (pe_callB (cr_min rfl) (by rfl) B.min PyProof.Rows.boot_min (pa_cons (pv 3) pa_nil)) (pa_cons (pe_callB (cr_max rfl) (by rfl) B.max PyProof.Rows.boot_max (pa_cons (pv 3) pa_nil)) pa_nil))) pa_nil))) pa_nil)) pa_nil)))))), ?_⟩
    refine ⟨Nat.zero_le _, fun e he => ?_⟩
    have sm0 := same_new (o := .lst []) (Same.refl H) he
    refine ⟨_, rfl, _, rfl, n, v, c, rfl, hn, hn7, Ct.mono _ _ _ _ (same_ts sm0) hc, fun H1 p1 sm1 hp1 ⟨vs, hvs, pvs⟩ => ?_⟩
    have sm01 := sm0.trans sm1
    have he1 : H1 e = some (.lst []) := sm1 _ _ upd_same
    have ep : p1 ≠ e := fun z => by rw [z, upd_same] at hp1; cases hp1
    have hd1 : Pr H1 u d := Pr.mono _ _ _ _ (same_ts sm01) hd
    obtain ⟨ud, rfl, hud⟩ := id hd1
    have hlen3 : (tris n c).length ≤ 1000 := by
      have h1 := triL_len n c n
      have h2 : n * (n * n) ≤ 7 * (7 * 7) := Nat.mul_le_mul hn7 (Nat.mul_le_mul hn7 hn7)
      unfold tris
      omega
    refine ⟨p1, rfl, ⟨_, SqL.of hvs⟩, for_list (K := K) (a := p1) (xs := vs) (fun i σ H' => ∃ s4, σ = [some (.int n), some v, some (.ref ud), some (.ref e), s4, none, none, none] ∧ But e H1 H' ∧ H' e = some (.lst ((endsF d ((tris n c).take i)).map V.int)))
      ⟨none, rfl, But.rf _ _, he1⟩ (fun i σ H' _ ⟨_, _, b, _⟩ => SqL.of (b _ _ ep hvs)) ?_ ?_⟩
    · rintro i x σ H2 hi ⟨s4, rfl, bt, hE⟩
      obtain ⟨t, ht, hT⟩ := L2.paired_get pvs hi
      have ts12 : TSm H1 H2 := bt.ts he1
      obtain ⟨tx, rfl, htx⟩ := Tr.mono _ _ _ _ ts12 hT
      have hud2 := ts12 _ _ hud
      have htx' : H2 tx = some (.tup ((triI t).map V.int)) := htx
      have hElen : (endsF d ((tris n c).take i)).length ≤ 1000 := by
        unfold endsF
        rw [List.length_map]
        refine Nat.le_trans (List.length_filter_le _ _) ?_
        rw [List.length_take]; omega
      have d0 : atI [V.int d.1, V.int d.2] 0 = some (.int d.1) := rfl
      have d1 : atI [V.int d.1, V.int d.2] 1 = some (.int d.2) := rfl
      have hs := endsF_succ (d := d) ht
      have no : hasD d t = false → ∃ s4, [some (V.int n), some v, some (V.ref ud), some (V.ref e), some (V.ref tx), none, none, none] = [some (V.int n), some v, some (V.ref ud), some (V.ref e), s4, none, none, none] ∧ But e H1 H2 ∧ H2 e = some (.lst ((endsF d ((tris n c).take (i + 1))).map V.int)) := fun z => by
        refine ⟨_, rfl, bt, ?_⟩
        rw [hs, if_neg (by rw [z]; exact Bool.false_ne_true), List.append_nil]
        exact hE
      refine ⟨_, rfl, ud, _, _, _, rfl, rfl, SqT.of hud2, d0, _, rfl, tx, _, rfl, .inr (SqT.of htx'), rfl, flat_ints _, _, rfl, ?_⟩
      simp only [if_false, Bool.false_eq_true]
      rw [inV_int]
      refine ite2 (fun x1 => ?_) (fun x1 => ?_)
      · refine ⟨_, rfl, ud, _, _, _, rfl, rfl, SqT.of hud2, d1, _, rfl, tx, _, rfl, .inr (SqT.of htx'), rfl, flat_ints _, _, rfl, ?_⟩
        simp only [if_false, Bool.false_eq_true]
        rw [inV_int]
        refine ite2 (fun x2 => ?_) (fun x2 => ?_)
        · have hh : hasD d t = true := by unfold hasD; rw [x1, x2]; rfl
          have hne := hok.1 t (List.mem_of_getElem? ht) hh
          refine ⟨_, rfl, .inl ⟨rfl, _, SqL.of hE⟩, ?_⟩
          refine ⟨_, rfl, tx, rfl, ⟨_, SqT.of htx'⟩, fun D hD => lc_tup (K := K) (a := tx) (xs := (triI t).map V.int)
            (fun i H' => Same H2 H' ∧ H' D = some (.lst ((((triI t).take i).filter fun x => decide (x ∉ [d.1, d.2])).map V.int))) ⟨same_new (Same.refl H2) hD, upd_same⟩ (fun i H' _ s => SqT.of (s.1 _ _ htx')) ?_ ?_⟩
          · rintro j y H3 hj ⟨sm3, hD3⟩
            obtain ⟨z, hz, rfl⟩ : ∃ z, (triI t)[j]? = some z ∧ y = V.int z := by
              rw [List.getElem?_map] at hj
              cases ez : (triI t)[j]? with
              | none => rw [ez] at hj; cases hj
              | some z => rw [ez] at hj; exact ⟨z, rfl, (Option.some.inj hj).symm⟩
            refine ⟨rfl, _, rfl, _, rfl, ud, [V.int d.1, V.int d.2], rfl, .inr (SqT.of (sm3 _ _ hud2)), rfl, rfl, _, rfl, ?_⟩
            have ei : inV (V.int z) [V.int d.1, V.int d.2] = decide (z ∈ [d.1, d.2]) := inV_int z [d.1, d.2]
            have hfs := filter_snoc (f := fun x => decide (x ∉ [d.1, d.2])) hz
            refine ite2 (fun w1 => ?_) (fun w1 => ?_)
            · have w2 : decide (z ∉ [d.1, d.2]) = true := by
                have w3 : (!inV (V.int z) [V.int d.1, V.int d.2]) = true := w1
                rw [ei] at w3
                simpa using w3
              refine ⟨_, rfl, _, hD3, ?_, same_put sm3 hD, ?_⟩
              · rw [List.length_map]
                refine Nat.lt_of_le_of_lt (List.length_filter_le _ _) ?_
                rw [List.length_take, sizeLine_eq]
                have : (triI t).length = 3 := rfl
                omega
              · rw [hfs, if_pos w2, List.map_append]
                exact upd_same
            · have w2 : decide (z ∉ [d.1, d.2]) = false := by
                have w3 : ¬ ((!inV (V.int z) [V.int d.1, V.int d.2]) = true) := w1
                rw [ei] at w3
                simpa using w3
              refine ⟨sm3, ?_⟩
              rw [hfs, if_neg (by rw [w2]; exact Bool.false_ne_true), List.append_nil]
              exact hD3
          · rintro H3 ⟨sm3, hD3⟩
            rw [List.length_map, List.take_length] at hD3
            have hD3' : H3 D = some (.lst ((othD d t).map V.int)) := hD3
            obtain ⟨z, zs, hz⟩ : ∃ z zs, othD d t = z :: zs := by
              cases eo : othD d t with
              | nil => exact absurd eo hne
              | cons z zs => exact ⟨z, zs, rfl⟩
            rw [hz] at hD3'
            refine ⟨D, _, _, .int z, rfl, rfl, SqL.of hD3', at_of (j := 0) rfl (by rfl), e, _, _, rfl, rfl, sm3 _ _ hE, by rw [List.length_map]; exact Nat.lt_of_le_of_lt hElen (by decide), ?_⟩
            refine ⟨_, rfl, (bt.tr (But.of sm3)).put, ?_⟩
            rw [hs, if_pos hh, hz, List.map_append]
            exact upd_same
        · exact no (by unfold hasD; rw [show decide (d.2 ∈ triI t) = false from Bool.eq_false_iff.mpr x2, Bool.and_false])
      · exact no (by unfold hasD; rw [show decide (d.1 ∈ triI t) = false from Bool.eq_false_iff.mpr x1, Bool.false_and])
    · rintro σ H2 ⟨s4, rfl, bt, hE⟩
      rw [paired_len pvs, List.take_length] at hE
      have sm2 : Same H H2 := But.same sm01 he bt
      have hc2 : Ct H2 v c := Ct.mono _ _ _ _ (same_ts sm2) hc
      have hd2 : Pr H2 (.ref ud) d := Pr.mono _ _ _ _ (bt.ts he1) hd1
      obtain ⟨cv, cvs, rfl, hcv, pcv⟩ := id hc2
      refine ⟨_, rfl, cv, rfl, ⟨_, SqT.of hcv⟩, fun D hD => lc_tup (K := K) (a := cv) (xs := cvs) (fun i H' => Same H2 H' ∧ LsOf Pr H' D ((c.take i).filter fun q => decide (q ≠ d))) ⟨same_new (Same.refl H2) hD, LsOf.new⟩ (fun i H' _ s => SqT.of (s.1 _ _ hcv)) ?_ ?_⟩
      · rintro j y H3 hj ⟨sm3, ls3⟩
        obtain ⟨q, hq, hPq⟩ := L2.paired_get pcv hj
        have hPq3 := Pr.mono _ _ _ _ (same_ts sm3) hPq
        refine ⟨rfl, _, rfl, _, rfl, q, d, hPq3, Pr.mono _ _ _ _ (same_ts sm3) hd2, _, rfl, ?_⟩
        have hfs := filter_snoc (f := fun q => decide (q ≠ d)) hq
        refine ite2 (fun w1 => ?_) (fun w1 => ?_)
        · obtain ⟨ws, hws, pws⟩ := ls3
          refine ⟨_, rfl, _, hws, ?_, same_put sm3 hD, ?_⟩
          · rw [paired_len pws]
            refine Nat.lt_of_le_of_lt (List.length_filter_le _ _) ?_
            rw [List.length_take, sizeLine_eq]
            omega
          · rw [hfs, if_pos w1]
            exact LsOf.snoc Pr.mono hws pws hPq3
        · refine ⟨sm3, ?_⟩
          rw [hfs, if_neg w1, List.append_nil]
          exact ls3
      · rintro H3 ⟨sm3, ls3⟩
        rw [paired_len pcv, List.take_length] at ls3
        have ls3' : LsOf Pr H3 D (keptP c d) := ls3
        have hE3 := sm3 _ _ hE
        have hpos : 0 < (endsF d (tris n c)).length := List.length_pos_iff.mpr hok.2
        obtain ⟨ws, hws, pws⟩ := ls3'
        refine ⟨_, rfl, ?_⟩
        refine ⟨_, rfl, e, _, rfl, SqL.of hE3, hpos, fun m1 hm1 hm1' => ?_⟩
        refine ⟨_, rfl, e, _, rfl, SqL.of hE3, hpos, fun m2 hm2 hm2' => ?_⟩
        rw [minI_is hm1 hm1', maxI_is hm2 hm2']
        refine ⟨(by show 2 ≤ sizeLine; decide), fun t ht => ⟨(by show 1 ≤ sizeLine; decide), fun l hl => ?_⟩⟩
        have hwl : ws.length ≤ 100 := by
          rw [paired_len pws]
          exact Nat.le_trans (List.length_filter_le _ _) hlen
        refine ⟨D, l, ws, _, rfl, rfl, kept1 hl (kept1 ht hws), upd_same, (by rw [sizeLine_eq]; simp only [List.length_cons, List.length_nil]; omega), fun p hp => ?_⟩
        have sm4 := same_new (o := .lst (ws ++ [.ref t])) (same_new (o := .lst [.ref t]) (same_new (o := .tup [.int (minI (endsF d (tris n c))), .int (maxI (endsF d (tris n c)))]) sm3 ht) hl) hp
        have ts1 := ts_new (o := .tup [.int (minI (endsF d (tris n c))), .int (maxI (endsF d (tris n c)))]) ht
        have ts2 := ts_new (o := .lst [.ref t]) hl
        have ts3 := ts_new (o := .lst (ws ++ [.ref t])) hp
        refine ⟨p, _, rfl, ⟨_, upd_same, paired_app (pair_mono Pr.mono (ts1.tr (ts2.tr ts3)) pws) (paired_one (y := (minI (endsF d (tris n c)), maxI (endsF d (tris n c)))) ⟨t, rfl, kept1 hp (kept1 hl upd_same)⟩)⟩, fun p' hp' H5 sm5 ls5 => ?_⟩
        refine ⟨p', _, rfl, ls5, fun H6 r sm6 hr6 => ?_⟩
        exact Z H6 r (sm2.trans (sm4.trans (sm5.trans sm6))) hr6
end
end Fs
/-! Flipsheets, plain law: the cuttings of a polygon with 3 to 7 corners by their index, what each flip leads to, the distances; the facts by computing. -/
namespace Fs
def cuts3 : List (List (Int × Int)) := [[]]
def nbrs3 : List (List Nat) := [[]]
def dts3 : List (List Nat) := [[0]]
def cuts4 : List (List (Int × Int)) := [[(0, 2)], [(1, 3)]]
def nbrs4 : List (List Nat) := [[1], [0]]
def dts4 : List (List Nat) := [[0, 1], [1, 0]]
def cuts5 : List (List (Int × Int)) := [[(0, 2), (0, 3)], [(0, 2), (2, 4)], [(0, 3), (1, 3)], [(1, 3), (1, 4)], [(1, 4), (2, 4)]]
def nbrs5 : List (List Nat) := [[2, 1], [4, 0], [3, 0], [4, 2], [1, 3]]
def dts5 : List (List Nat) := [[0, 1, 1, 2, 2], [1, 0, 2, 2, 1], [1, 2, 0, 1, 2], [2, 2, 1, 0, 1], [2, 1, 2, 1, 0]]
def cuts6 : List (List (Int × Int)) := [[(0, 2), (0, 3), (0, 4)], [(0, 2), (0, 3), (3, 5)], [(0, 2), (0, 4), (2, 4)], [(0, 2), (2, 4), (2, 5)], [(0, 2), (2, 5), (3, 5)], [(0, 3), (0, 4), (1, 3)], [(0, 3), (1, 3), (3, 5)], [(0, 4), (1, 3), (1, 4)], [(0, 4), (1, 4), (2, 4)], [(1, 3), (1, 4), (1, 5)], [(1, 3), (1, 5), (3, 5)], [(1, 4), (1, 5), (2, 4)], [(1, 5), (2, 4), (2, 5)], [(1, 5), (2, 5), (3, 5)]]
def nbrs6 : List (List Nat) := [[5, 2, 1], [6, 4, 0], [8, 3, 0], [12, 4, 2], [13, 1, 3], [7, 6, 0], [10, 1, 5], [9, 8, 5], [11, 2, 7], [11, 10, 7], [13, 6, 9], [12, 8, 9], [3, 13, 11], [4, 10, 12]]
def dts6 : List (List Nat) := [[0, 1, 1, 2, 2, 1, 2, 2, 2, 3, 3, 3, 3, 3], [1, 0, 2, 2, 1, 2, 1, 3, 3, 3, 2, 4, 3, 2], [1, 2, 0, 1, 2, 2, 3, 2, 1, 3, 4, 2, 2, 3], [2, 2, 1, 0, 1, 3, 3, 3, 2, 3, 3, 2, 1, 2], [2, 1, 2, 1, 0, 3, 2, 4, 3, 3, 2, 3, 2, 1], [1, 2, 2, 3, 3, 0, 1, 1, 2, 2, 2, 3, 4, 3], [2, 1, 3, 3, 2, 1, 0, 2, 3, 2, 1, 3, 3, 2], [2, 3, 2, 3, 4, 1, 2, 0, 1, 1, 2, 2, 3, 3], [2, 3, 1, 2, 3, 2, 3, 1, 0, 2, 3, 1, 2, 3], [3, 3, 3, 3, 3, 2, 2, 1, 2, 0, 1, 1, 2, 2], [3, 2, 4, 3, 2, 2, 1, 2, 3, 1, 0, 2, 2, 1], [3, 4, 2, 2, 3, 3, 3, 2, 1, 1, 2, 0, 1, 2], [3, 3, 2, 1, 2, 4, 3, 3, 2, 2, 2, 1, 0, 1], [3, 2, 3, 2, 1, 3, 2, 3, 3, 2, 1, 2, 1, 0]]
def cuts7 : List (List (Int × Int)) := [[(0, 2), (0, 3), (0, 4), (0, 5)], [(0, 2), (0, 3), (0, 4), (4, 6)], [(0, 2), (0, 3), (0, 5), (3, 5)], [(0, 2), (0, 3), (3, 5), (3, 6)], [(0, 2), (0, 3), (3, 6), (4, 6)], [(0, 2), (0, 4), (0, 5), (2, 4)], [(0, 2), (0, 4), (2, 4), (4, 6)], [(0, 2), (0, 5), (2, 4), (2, 5)], [(0, 2), (0, 5), (2, 5), (3, 5)], [(0, 2), (2, 4), (2, 5), (2, 6)], [(0, 2), (2, 4), (2, 6), (4, 6)], [(0, 2), (2, 5), (2, 6), (3, 5)], [(0, 2), (2, 6), (3, 5), (3, 6)], [(0, 2), (2, 6), (3, 6), (4, 6)], [(0, 3), (0, 4), (0, 5), (1, 3)], [(0, 3), (0, 4), (1, 3), (4, 6)], [(0, 3), (0, 5), (1, 3), (3, 5)], [(0, 3), (1, 3), (3, 5), (3, 6)], [(0, 3), (1, 3), (3, 6), (4, 6)], [(0, 4), (0, 5), (1, 3), (1, 4)], [(0, 4), (0, 5), (1, 4), (2, 4)], [(0, 4), (1, 3), (1, 4), (4, 6)], [(0, 4), (1, 4), (2, 4), (4, 6)], [(0, 5), (1, 3), (1, 4), (1, 5)], [(0, 5), (1, 3), (1, 5), (3, 5)], [(0, 5), (1, 4), (1, 5), (2, 4)], [(0, 5), (1, 5), (2, 4), (2, 5)], [(0, 5), (1, 5), (2, 5), (3, 5)], [(1, 3), (1, 4), (1, 5), (1, 6)], [(1, 3), (1, 4), (1, 6), (4, 6)], [(1, 3), (1, 5), (1, 6), (3, 5)], [(1, 3), (1, 6), (3, 5), (3, 6)], [(1, 3), (1, 6), (3, 6), (4, 6)], [(1, 4), (1, 5), (1, 6), (2, 4)], [(1, 4), (1, 6), (2, 4), (4, 6)], [(1, 5), (1, 6), (2, 4), (2, 5)], [(1, 5), (1, 6), (2, 5), (3, 5)], [(1, 6), (2, 4), (2, 5), (2, 6)], [(1, 6), (2, 4), (2, 6), (4, 6)], [(1, 6), (2, 5), (2, 6), (3, 5)], [(1, 6), (2, 6), (3, 5), (3, 6)], [(1, 6), (2, 6), (3, 6), (4, 6)]]
def nbrs7 : List (List Nat) := [[14, 5, 2, 1], [15, 6, 4, 0], [16, 8, 3, 0], [17, 12, 4, 2], [18, 13, 1, 3], [20, 7, 6, 0], [22, 10, 1, 5], [26, 9, 8, 5], [27, 11, 2, 7], [37, 11, 10, 7], [38, 13, 6, 9], [39, 12, 8, 9], [40, 3, 13, 11], [41, 4, 10, 12], [19, 16, 15, 0], [21, 18, 1, 14], [24, 17, 2, 14], [31, 3, 18, 16], [32, 4, 15, 17], [23, 21, 20, 14], [25, 22, 5, 19], [29, 22, 15, 19], [34, 6, 21, 20], [28, 25, 24, 19], [30, 27, 16, 23], [33, 26, 20, 23], [35, 7, 27, 25], [36, 8, 24, 26], [33, 30, 29, 23], [34, 32, 21, 28], [36, 31, 24, 28], [40, 17, 32, 30], [41, 18, 29, 31], [35, 34, 25, 28], [38, 22, 29, 33], [37, 26, 36, 33], [39, 27, 30, 35], [9, 39, 38, 35], [10, 41, 34, 37], [11, 40, 36, 37], [12, 31, 41, 39], [13, 32, 38, 40]]
def dts7 : List (List Nat) := [[0, 1, 1, 2, 2, 1, 2, 2, 2, 3, 3, 3, 3, 3, 1, 2, 2, 3, 3, 2, 2, 3, 3, 3, 3, 3, 3, 3, 4, 4, 4, 4, 4, 4, 4, 4, 4, 4, 4, 4, 4, 4], [1, 0, 2, 2, 1, 2, 1, 3, 3, 3, 2, 4, 3, 2, 2, 1, 3, 3, 2, 3, 3, 2, 2, 4, 4, 4, 4, 4, 4, 3, 5, 4, 3, 4, 3, 5, 5, 4, 3, 5, 4, 3], [1, 2, 0, 1, 2, 2, 3, 2, 1, 3, 4, 2, 2, 3, 2, 3, 1, 2, 3, 3, 3, 4, 4, 3, 2, 4, 3, 2, 4, 5, 3, 3, 4, 5, 5, 4, 3, 4, 5, 3, 3, 4], [2, 2, 1, 0, 1, 3, 3, 3, 2, 3, 3, 2, 1, 2, 3, 3, 2, 1, 2, 4, 4, 4, 4, 4, 3, 5, 4, 3, 4, 4, 3, 2, 3, 5, 5, 5, 4, 4, 4, 3, 2, 3], [2, 1, 2, 1, 0, 3, 2, 4, 3, 3, 2, 3, 2, 1, 3, 2, 3, 2, 1, 4, 4, 3, 3, 5, 4, 5, 5, 4, 4, 3, 4, 3, 2, 5, 4, 5, 5, 4, 3, 4, 3, 2], [1, 2, 2, 3, 3, 0, 1, 1, 2, 2, 2, 3, 4, 3, 2, 3, 3, 4, 4, 2, 1, 3, 2, 3, 4, 2, 2, 3, 4, 4, 5, 5, 5, 3, 3, 3, 4, 3, 3, 4, 5, 4], [2, 1, 3, 3, 2, 1, 0, 2, 3, 2, 1, 3, 3, 2, 3, 2, 4, 4, 3, 3, 2, 2, 1, 4, 5, 3, 3, 4, 4, 3, 5, 5, 4, 3, 2, 4, 5, 3, 2, 4, 4, 3], [2, 3, 2, 3, 4, 1, 2, 0, 1, 1, 2, 2, 3, 3, 3, 4, 3, 4, 5, 3, 2, 4, 3, 3, 3, 2, 1, 2, 4, 5, 4, 5, 5, 3, 4, 2, 3, 2, 3, 3, 4, 4], [2, 3, 1, 2, 3, 2, 3, 1, 0, 2, 3, 1, 2, 3, 3, 4, 2, 3, 4, 4, 3, 5, 4, 3, 2, 3, 2, 1, 4, 5, 3, 4, 5, 4, 5, 3, 2, 3, 4, 2, 3, 4], [3, 3, 3, 3, 3, 2, 2, 1, 2, 0, 1, 1, 2, 2, 4, 4, 4, 4, 4, 4, 3, 4, 3, 4, 4, 3, 2, 3, 4, 4, 4, 4, 4, 3, 3, 2, 3, 1, 2, 2, 3, 3], [3, 2, 4, 3, 2, 2, 1, 2, 3, 1, 0, 2, 2, 1, 4, 3, 5, 4, 3, 4, 3, 3, 2, 5, 5, 4, 3, 4, 4, 3, 5, 4, 3, 3, 2, 3, 4, 2, 1, 3, 3, 2], [3, 4, 2, 2, 3, 3, 3, 2, 1, 1, 2, 0, 1, 2, 4, 5, 3, 3, 4, 5, 4, 5, 4, 4, 3, 4, 3, 2, 4, 5, 3, 3, 4, 4, 4, 3, 2, 2, 3, 1, 2, 3], [3, 3, 2, 1, 2, 4, 3, 3, 2, 2, 2, 1, 0, 1, 4, 4, 3, 2, 3, 5, 5, 5, 4, 5, 4, 5, 4, 3, 4, 4, 3, 2, 3, 5, 4, 4, 3, 3, 3, 2, 1, 2], [3, 2, 3, 2, 1, 3, 2, 3, 3, 2, 1, 2, 1, 0, 4, 3, 4, 3, 2, 5, 4, 4, 3, 5, 5, 5, 4, 4, 4, 3, 4, 3, 2, 4, 3, 4, 4, 3, 2, 3, 2, 1], [1, 2, 2, 3, 3, 2, 3, 3, 3, 4, 4, 4, 4, 4, 0, 1, 1, 2, 2, 1, 2, 2, 3, 2, 2, 3, 4, 3, 3, 3, 3, 3, 3, 4, 4, 5, 4, 5, 5, 5, 4, 4], [2, 1, 3, 3, 2, 3, 2, 4, 4, 4, 3, 5, 4, 3, 1, 0, 2, 2, 1, 2, 3, 1, 2, 3, 3, 4, 5, 4, 3, 2, 4, 3, 2, 4, 3, 5, 5, 5, 4, 5, 4, 3], [2, 3, 1, 2, 3, 3, 4, 3, 2, 4, 5, 3, 3, 4, 1, 2, 0, 1, 2, 2, 3, 3, 4, 2, 1, 3, 3, 2, 3, 4, 2, 2, 3, 4, 5, 4, 3, 5, 5, 4, 3, 4], [3, 3, 2, 1, 2, 4, 4, 4, 3, 4, 4, 3, 2, 3, 2, 2, 1, 0, 1, 3, 4, 3, 4, 3, 2, 4, 4, 3, 3, 3, 2, 1, 2, 4, 4, 4, 3, 4, 4, 3, 2, 3], [3, 2, 3, 2, 1, 4, 3, 5, 4, 4, 3, 4, 3, 2, 2, 1, 2, 1, 0, 3, 4, 2, 3, 4, 3, 5, 5, 4, 3, 2, 3, 2, 1, 4, 3, 5, 4, 4, 3, 4, 3, 2], [2, 3, 3, 4, 4, 2, 3, 3, 4, 4, 4, 5, 5, 5, 1, 2, 2, 3, 3, 0, 1, 1, 2, 1, 2, 2, 3, 3, 2, 2, 3, 4, 3, 3, 3, 4, 4, 5, 4, 5, 5, 4], [2, 3, 3, 4, 4, 1, 2, 2, 3, 3, 3, 4, 5, 4, 2, 3, 3, 4, 4, 1, 0, 2, 1, 2, 3, 1, 2, 3, 3, 3, 4, 5, 4, 2, 2, 3, 4, 4, 3, 5, 5, 4], [3, 2, 4, 4, 3, 3, 2, 4, 5, 4, 3, 5, 5, 4, 2, 1, 3, 3, 2, 1, 2, 0, 1, 2, 3, 3, 4, 4, 2, 1, 3, 3, 2, 3, 2, 4, 4, 4, 3, 5, 4, 3], [3, 2, 4, 4, 3, 2, 1, 3, 4, 3, 2, 4, 4, 3, 3, 2, 4, 4, 3, 2, 1, 1, 0, 3, 4, 2, 3, 4, 3, 2, 4, 4, 3, 2, 1, 3, 4, 3, 2, 4, 4, 3], [3, 4, 3, 4, 5, 3, 4, 3, 3, 4, 5, 4, 5, 5, 2, 3, 2, 3, 4, 1, 2, 2, 3, 0, 1, 1, 2, 2, 1, 2, 2, 3, 3, 2, 3, 3, 3, 4, 4, 4, 4, 4], [3, 4, 2, 3, 4, 4, 5, 3, 2, 4, 5, 3, 4, 5, 2, 3, 1, 2, 3, 2, 3, 3, 4, 1, 0, 2, 2, 1, 2, 3, 1, 2, 3, 3, 4, 3, 2, 4, 5, 3, 3, 4], [3, 4, 4, 5, 5, 2, 3, 2, 3, 3, 4, 4, 5, 5, 3, 4, 3, 4, 5, 2, 1, 3, 2, 1, 2, 0, 1, 2, 2, 3, 3, 4, 4, 1, 2, 2, 3, 3, 3, 4, 5, 4], [3, 4, 3, 4, 5, 2, 3, 1, 2, 2, 3, 3, 4, 4, 4, 5, 3, 4, 5, 3, 2, 4, 3, 2, 2, 1, 0, 1, 3, 4, 3, 4, 5, 2, 3, 1, 2, 2, 3, 3, 4, 4], [3, 4, 2, 3, 4, 3, 4, 2, 1, 3, 4, 2, 3, 4, 3, 4, 2, 3, 4, 3, 3, 4, 4, 2, 1, 2, 1, 0, 3, 4, 2, 3, 4, 3, 4, 2, 1, 3, 4, 2, 3, 4], [4, 4, 4, 4, 4, 4, 4, 4, 4, 4, 4, 4, 4, 4, 3, 3, 3, 3, 3, 2, 3, 2, 3, 1, 2, 2, 3, 3, 0, 1, 1, 2, 2, 1, 2, 2, 2, 3, 3, 3, 3, 3], [4, 3, 5, 4, 3, 4, 3, 5, 5, 4, 3, 5, 4, 3, 3, 2, 4, 3, 2, 2, 3, 1, 2, 2, 3, 3, 4, 4, 1, 0, 2, 2, 1, 2, 1, 3, 3, 3, 2, 4, 3, 2], [4, 5, 3, 3, 4, 5, 5, 4, 3, 4, 5, 3, 3, 4, 3, 4, 2, 2, 3, 3, 4, 3, 4, 2, 1, 3, 3, 2, 1, 2, 0, 1, 2, 2, 3, 2, 1, 3, 4, 2, 2, 3], [4, 4, 3, 2, 3, 5, 5, 5, 4, 4, 4, 3, 2, 3, 3, 3, 2, 1, 2, 4, 5, 3, 4, 3, 2, 4, 4, 3, 2, 2, 1, 0, 1, 3, 3, 3, 2, 3, 3, 2, 1, 2], [4, 3, 4, 3, 2, 5, 4, 5, 5, 4, 3, 4, 3, 2, 3, 2, 3, 2, 1, 3, 4, 2, 3, 3, 3, 4, 5, 4, 2, 1, 2, 1, 0, 3, 2, 4, 3, 3, 2, 3, 2, 1], [4, 4, 5, 5, 5, 3, 3, 3, 4, 3, 3, 4, 5, 4, 4, 4, 4, 4, 4, 3, 2, 3, 2, 2, 3, 1, 2, 3, 1, 2, 2, 3, 3, 0, 1, 1, 2, 2, 2, 3, 4, 3], [4, 3, 5, 5, 4, 3, 2, 4, 5, 3, 2, 4, 4, 3, 4, 3, 5, 4, 3, 3, 2, 2, 1, 3, 4, 2, 3, 4, 2, 1, 3, 3, 2, 1, 0, 2, 3, 2, 1, 3, 3, 2], [4, 5, 4, 5, 5, 3, 4, 2, 3, 2, 3, 3, 4, 4, 5, 5, 4, 4, 5, 4, 3, 4, 3, 3, 3, 2, 1, 2, 2, 3, 2, 3, 4, 1, 2, 0, 1, 1, 2, 2, 3, 3], [4, 5, 3, 4, 5, 4, 5, 3, 2, 3, 4, 2, 3, 4, 4, 5, 3, 3, 4, 4, 4, 4, 4, 3, 2, 3, 2, 1, 2, 3, 1, 2, 3, 2, 3, 1, 0, 2, 3, 1, 2, 3], [4, 4, 4, 4, 4, 3, 3, 2, 3, 1, 2, 2, 3, 3, 5, 5, 5, 4, 4, 5, 4, 4, 3, 4, 4, 3, 2, 3, 3, 3, 3, 3, 3, 2, 2, 1, 2, 0, 1, 1, 2, 2], [4, 3, 5, 4, 3, 3, 2, 3, 4, 2, 1, 3, 3, 2, 5, 4, 5, 4, 3, 4, 3, 3, 2, 4, 5, 3, 3, 4, 3, 2, 4, 3, 2, 2, 1, 2, 3, 1, 0, 2, 2, 1], [4, 5, 3, 3, 4, 4, 4, 3, 2, 2, 3, 1, 2, 3, 5, 5, 4, 3, 4, 5, 5, 5, 4, 4, 3, 4, 3, 2, 3, 4, 2, 2, 3, 3, 3, 2, 1, 1, 2, 0, 1, 2], [4, 4, 3, 2, 3, 5, 4, 4, 3, 3, 3, 2, 1, 2, 4, 4, 3, 2, 3, 5, 5, 4, 4, 4, 3, 5, 4, 3, 3, 3, 2, 1, 2, 4, 3, 3, 2, 2, 2, 1, 0, 1], [4, 3, 4, 3, 2, 4, 3, 4, 4, 3, 2, 3, 2, 1, 4, 3, 4, 3, 2, 4, 4, 3, 3, 4, 4, 4, 4, 4, 3, 2, 3, 2, 1, 3, 2, 3, 3, 2, 1, 2, 1, 0]]
def cuts : Nat → List (List (Int × Int)) | 3 => cuts3 | 4 => cuts4 | 5 => cuts5 | 6 => cuts6 | 7 => cuts7 | _ => []
def nbrs : Nat → List (List Nat) | 3 => nbrs3 | 4 => nbrs4 | 5 => nbrs5 | 6 => nbrs6 | 7 => nbrs7 | _ => []
def dts : Nat → List (List Nat) | 3 => dts3 | 4 => dts4 | 5 => dts5 | 6 => dts6 | 7 => dts7 | _ => []
def sizeN : Nat → Nat | 3 => 1 | 4 => 2 | 5 => 5 | 6 => 14 | 7 => 42 | _ => 0
/-- the cutting with the index i, what its flips lead to, the distance from i to g -/
def cutN (n i : Nat) : List (Int × Int) := (cuts n).getD i []
def nbN (n i : Nat) : List Nat := (nbrs n).getD i []
def dt (n g i : Nat) : Nat := ((dts n).getD g []).getD i 0
/-- the polygons that are asked -/
def Poly (n : Nat) : Prop := n = 3 ∨ n = 4 ∨ n = 5 ∨ n = 6 ∨ n = 7
/-- what holds of all five is shown for each -/
theorem poly_all {p : Nat → Bool} (h : (p 3 && (p 4 && (p 5 && (p 6 && p 7)))) = true) {n : Nat} (hn : Poly n) : p n = true := by
  simp only [(Bool.and_eq_true)] at h
  rcases hn with rfl | rfl | rfl | rfl | rfl
  · exact h.1
  · exact h.2.1
  · exact h.2.2.1
  · exact h.2.2.2.1
  · exact h.2.2.2.2
theorem all_range {m : Nat} {p : Nat → Bool} (h : (List.range m).all p = true) {i : Nat} (hi : i < m) : p i = true := List.all_eq_true.mp h i (List.mem_range.mpr hi)
theorem poly_le {n : Nat} (h : Poly n) : 3 ≤ n ∧ n ≤ 7 := by rcases h with rfl | rfl | rfl | rfl | rfl <;> decide
/-! ### the search, over indices -/
/-- a neighbour is looked at: new, it is put behind -/
def seeN (d : Nat) (f : List (Nat × Nat)) (j : Nat) : List (Nat × Nat) := if (f.lookup j).isNone then f ++ [(j, d + 1)] else f
def stepN (nb : List Nat) (d : Nat) (f : List (Nat × Nat)) : List (Nat × Nat) := nb.foldl (seeN d) f
/-- from the place a on -/
def bfsN (n : Nat) : Nat → Nat → List (Nat × Nat) → List (Nat × Nat)
  | 0, _, f => f
  | k + 1, a, f => match f[a]? with
    | none => f
    | some (i, d) => bfsN n k (a + 1) (stepN (nbN n i) d f)
def found (n g : Nat) : List (Nat × Nat) := bfsN n (sizeN n + 1) 0 [(g, 0)]
/-- the places of the diagonals whose flip comes nearer -/
def goodN (n g i : Nat) : List Nat := (List.range (nbN n i).length).filter fun k => decide (dt n g ((nbN n i).getD k 0) < dt n g i)
def rowN (n g : Nat) : Nat → Nat → List (Int × Int)
  | 0, _ => []
  | f + 1, i => if dt n g i = 0 then [] else (cutN n i).getD ((goodN n g i).headD 0) (0, 0) :: rowN n g f ((nbN n i).getD ((goodN n g i).headD 0) 0)
theorem fact_sizes : ∀ {n : Nat}, Poly n → (cuts n).length = sizeN n ∧ (nbrs n).length = sizeN n := by
  intro n h; rcases h with rfl | rfl | rfl | rfl | rfl <;> decide +kernel
theorem fact_nodup : ∀ {n : Nat}, Poly n → (cuts n).Nodup := by
  intro n h; rcases h with rfl | rfl | rfl | rfl | rfl <;> decide +kernel
def chkNb (n : Nat) : Bool := (List.range (sizeN n)).all fun i => decide ((nbN n i).length = (cutN n i).length) && (decide ((cutN n i).length = n - 3) && (nbN n i).all fun j => decide (j < sizeN n))
theorem chkNb_ok {n : Nat} (h : Poly n) : chkNb n = true := poly_all (p := chkNb) (by decide +kernel) h
theorem fact_nb {n i : Nat} (h : Poly n) (hi : i < sizeN n) : (nbN n i).length = (cutN n i).length ∧ (cutN n i).length = n - 3 ∧ ∀ j ∈ nbN n i, j < sizeN n := by
  have z := all_range (chkNb_ok h) hi
  simp only [Bool.and_eq_true, decide_eq_true_eq, List.all_eq_true] at z
  exact ⟨z.1, z.2.1, z.2.2⟩
def chkFound (n : Nat) : Bool := (List.range (sizeN n)).all fun g => (fun f => decide (f.length = sizeN n) && (List.range (sizeN n)).all fun i => decide (f.lookup i = some (dt n g i))) (found n g)
theorem chkFound_ok {n : Nat} (h : Poly n) : chkFound n = true := poly_all (p := chkFound) (by decide +kernel) h
theorem fact_found {n g : Nat} (h : Poly n) (hg : g < sizeN n) : (found n g).length = sizeN n ∧ ∀ i, i < sizeN n → (found n g).lookup i = some (dt n g i) := by
  have z := all_range (chkFound_ok h) hg
  simp only [Bool.and_eq_true, decide_eq_true_eq, List.all_eq_true] at z
  exact ⟨z.1, fun i hi => z.2 i (List.mem_range.mpr hi)⟩
def chkSym (n : Nat) : Bool := (List.range (sizeN n)).all fun g => (List.range (sizeN n)).all fun i => decide (dt n g i = dt n i g)
theorem chkSym_ok {n : Nat} (h : Poly n) : chkSym n = true := poly_all (p := chkSym) (by decide +kernel) h
theorem fact_sym {n g i : Nat} (h : Poly n) (hg : g < sizeN n) (hi : i < sizeN n) : dt n g i = dt n i g := of_decide_eq_true (all_range (all_range (chkSym_ok h) hg) hi)
def chkTri (n : Nat) : Bool := (List.range (sizeN n)).all fun t => (List.range (sizeN n)).all fun g => (fun b => ((dts n).getD t []).zip ((dts n).getD g []) |>.all fun p => decide (p.2 ≤ p.1 + b)) (dt n g t)
theorem chkTri_ok {n : Nat} (h : Poly n) : chkTri n = true := poly_all (p := chkTri) (by decide +kernel) h
def chkLen (n : Nat) : Bool := (List.range (sizeN n)).all fun g => decide (((dts n).getD g []).length = sizeN n)
theorem chkLen_ok {n : Nat} (h : Poly n) : chkLen n = true := poly_all (p := chkLen) (by decide +kernel) h
theorem getD_some {l : List Nat} {i : Nat} (h : i < l.length) : l[i]? = some (l.getD i 0) := by
  rw [(List.getD_eq_getElem?_getD), List.getElem?_eq_getElem h]; rfl
theorem fact_tri {n g s t : Nat} (h : Poly n) (hg : g < sizeN n) (hs : s < sizeN n) (ht : t < sizeN n) : dt n g s ≤ dt n t s + dt n g t := by
  have z := all_range (all_range (chkTri_ok h) ht) hg
  have l1 := of_decide_eq_true (all_range (chkLen_ok h) ht)
  have l2 := of_decide_eq_true (all_range (chkLen_ok h) hg)
  have q := List.all_eq_true.mp z (((dts n).getD t []).getD s 0, ((dts n).getD g []).getD s 0) ?_
  · exact of_decide_eq_true q
  · refine List.mem_iff_getElem?.mpr ⟨s, ?_⟩
    rw [List.getElem?_zip_eq_some]
    exact ⟨getD_some (by omega), getD_some (by omega)⟩
/-- less on pairs, as Python compares them -/
def ltB (p q : Int × Int) : Bool := decide (p.1 < q.1 ∨ (p.1 = q.1 ∧ p.2 < q.2))
def leastP : List (Int × Int) → Int × Int
  | [] => (0, 0)
  | p :: c => c.foldl (fun a y => if ltB y a then y else a) p
def diagsOf (n i : Nat) (ks : List Nat) : List (Int × Int) := ks.map fun k => (cutN n i).getD k (0, 0)
def chkGood (n : Nat) : Bool := (List.range (sizeN n)).all fun g => (List.range (sizeN n)).all fun i => decide (dt n g i = 0 ↔ i = g) &&
  (decide (dt n g i ≤ 12) && (decide (i = g) || (!(goodN n g i).isEmpty && decide (leastP (diagsOf n i (goodN n g i)) = (cutN n i).getD ((goodN n g i).headD 0) (0, 0)))))
theorem chkGood_ok {n : Nat} (h : Poly n) : chkGood n = true := poly_all (p := chkGood) (by decide +kernel) h
theorem fact_good {n g i : Nat} (h : Poly n) (hg : g < sizeN n) (hi : i < sizeN n) : (dt n g i = 0 ↔ i = g) ∧ dt n g i ≤ 12 ∧
    (i ≠ g → goodN n g i ≠ [] ∧ leastP (diagsOf n i (goodN n g i)) = (cutN n i).getD ((goodN n g i).headD 0) (0, 0)) := by
  have z := all_range (all_range (chkGood_ok h) hg) hi
  simp only [Bool.and_eq_true, Bool.or_eq_true, decide_eq_true_eq, Bool.not_eq_true', List.isEmpty_eq_false_iff] at z
  exact ⟨z.1, z.2.1, fun ne => z.2.2.resolve_left ne⟩
def chkRow (n : Nat) : Bool := (List.range (sizeN n)).all fun g => (List.range (sizeN n)).all fun i => (rowN n g 13 i).all fun d => !((cutN n i).contains d && (cutN n g).contains d)
theorem chkRow_ok {n : Nat} (h : Poly n) : chkRow n = true := poly_all (p := chkRow) (by decide +kernel) h
theorem fact_row {n g i : Nat} (h : Poly n) (hg : g < sizeN n) (hi : i < sizeN n) : ∀ d ∈ rowN n g 13 i, ¬ (d ∈ cutN n i ∧ d ∈ cutN n g) := by
  have z := List.all_eq_true.mp (all_range (all_range (chkRow_ok h) hg) hi)
  intro d hd ⟨h1, h2⟩
  have q := z d hd
  rw [List.contains_iff_mem.mpr h1, List.contains_iff_mem.mpr h2] at q
  cases q
end Fs
/-! Flipsheets, plain law: the program's flip leads where the table says. -/
namespace Fs
def chkFlip1 (n i k : Nat) : Bool := (fun c d => (fun ts => ts.all (fun t => !hasD d t || !(othD d t).isEmpty) && (!(endsF d ts).isEmpty && decide (sortP (keptP c d ++ [(minI (endsF d ts), maxI (endsF d ts))]) = cutN n ((nbN n i).getD k 0)))) (tris n c)) (cutN n i) ((cutN n i).getD k (0, 0))
def chkFlip (n : Nat) : Bool := (List.range (sizeN n)).all fun i => (List.range (cutN n i).length).all fun k => chkFlip1 n i k
theorem chkFlip_ok {n : Nat} (h : Poly n) : chkFlip n = true := poly_all (p := chkFlip) (by decide +kernel) h
theorem fact_flip {n i k : Nat} (h : Poly n) (hi : i < sizeN n) (hk : k < (cutN n i).length) :
    flipOk n (cutN n i) ((cutN n i).getD k (0, 0)) ∧ flipM n (cutN n i) ((cutN n i).getD k (0, 0)) = cutN n ((nbN n i).getD k 0) := by
  have z := all_range (all_range (chkFlip_ok h) hi) hk
  unfold chkFlip1 at z
  simp only [Bool.and_eq_true, List.all_eq_true, Bool.or_eq_true, Bool.not_eq_true', List.isEmpty_eq_false_iff, decide_eq_true_eq] at z
  refine ⟨⟨fun t ht hh => ?_, z.2.1⟩, z.2.2⟩
  rcases z.1 t ht with q | q
  · rw [hh] at q; cases q
  · exact q
end Fs
/-! Flipsheets, base 4: {cutting: n}; dicts and lines of cuttings told by index. -/
namespace Fs
open PySem L2 PySem.Spec PyProof.Rows
section
variable {X : Cx}
/-- {c: n} -/
theorem pe_nd1 {k v : Expr} {pos : Pos} {i : Nat} {n : Int} (hu : X.A.units + 64 < cLine) (hk : PE X k (tVar i)) (hv : PE X v (tC (.int n))) :
    PE X (.Dict [some k] [v] pos) (fun σ H Q => ∃ u c, σ[i]? = some (some u) ∧ Ct H u c ∧ ∀ p φ, H p = none → ND X.prog X.w (upd H p (.ext φ)) p [(c, n)] → Q (.ref p) (upd H p (.ext φ))) := ⟨fun pns s σ H Q I h => by
  obtain ⟨u, c, hu0, hc, q⟩ := h
  have hsm : (s.heap.objs.size == sysModules) = false := beq_eq_false_iff_ne.mpr (Ne.symm (Nat.ne_of_lt I.big))
  have hn : _ := I.hok.fresh (Nat.le_refl s.heap.objs.size)
  have ob : NDo X.prog X.w s.heap.objs.size [] (s.heap.push { cls := .type "dict", data := .dict #[] }) := ⟨hsm, _, #[], 0, Heap.get?_push_size _ rfl, ⟨rfl, rfl, rfl⟩, rfl, rfl, List.nodup_nil⟩
  have I1 := I.laid (a := s.heap.objs.size) (o := .ext (NDo X.prog X.w s.heap.objs.size [])) (t' := s.toks) (fun _ _ q => Heap.get?_push_of_some _ q) (Nat.le_refl _) (nd_obj ob)
  have hc1 := Ct.mono _ _ _ _ (ts_new (o := .ext (NDo X.prog X.w s.heap.objs.size [])) hn) hc
  rw [arm_eval_Dict]
  rw [zip_pairTrees [some k] [v] X.env pos rfl rfl, dictDisplay_pairs _ (by intro z; cases z) (by show 1 < 17; decide)]
  refine wpAny_bind (wpAny_standAt (wpAny_bind (wpAny_subDictH (knd := nestedKind X.prog X.w) (by show X.A.units + 8 < cLine; omega) (by show 1 ≤ 15; decide) ?_)))
  refine pairTrees_cons_walk (thn (hk.run pns _ σ _ (fun x H1 => x = u ∧ H1 = upd H s.heap.objs.size (.ext (NDo X.prog X.w s.heap.objs.size []))) I1 ⟨u, hu0, rfl, rfl⟩) fun kv s1 ⟨x, H1, I2, rx, e1, e2⟩ => ?_)
  subst e1 e2
  refine thn (hv.run pns s1 σ _ (fun y H2 => y = .int n ∧ H2 = upd H s.heap.objs.size (.ext (NDo X.prog X.w s.heap.objs.size []))) I2 ⟨rfl, rfl⟩) fun vv s2 ⟨y, H2, I3, ry, e3, e4⟩ => ?_
  subst e3 e4
  refine pairTrees_nil_walk ?_
  obtain ⟨b, vs, ex, hb, hp⟩ := id hc1
  subst ex
  obtain rfl : kv = Value.ref b := rx
  obtain ⟨t, rfl⟩ := ry
  have nd0 : ND X.prog X.w (upd H s.heap.objs.size (.ext (NDo X.prog X.w s.heap.objs.size []))) s.heap.objs.size [] := ⟨Nat.zero_le _, [], upd_same, .nil⟩
  obtain ⟨xs, exs, pxs, hd, dd⟩ := nd_at I3 nd0
  cases pxs
  refine ⟨[(nk c, b, .int n t)], ⟨rfl, rfl, ct_nested I3 hc1, trivial⟩, dd, fun h' tk dd' hs => ?_⟩
  rw [show storedAllH ([] : List XE) [(nk c, b, Value.int n t)] = [(nk c, b, Value.int n t)] from rfl] at dd'
  obtain ⟨o, es, ep, h1, h2, h3, h4, _, h5⟩ := dd'
  have J := d_write (t' := tk) (ob := .ext (NDo X.prog X.w s.heap.objs.size [(nk c, b, Value.int n t)])) I3 (by rw [upd_same]; exact True.intro) hs ⟨o, h1⟩ (nd_obj ⟨hd, o, es, ep, h1, h2, h3, h4, h5⟩)
  rw [upd_upd] at J
  refine wpAny_pure ⟨.ref s.heap.objs.size, _, J, rfl, q _ _ hn ⟨by show 1 ≤ 1000; decide, _, upd_same, .cons ⟨rfl, Ct.mono _ _ _ _ (ts_new hn) hc, t, rfl⟩ .nil⟩⟩⟩
end
/-! ### told by index -/
abbrev NN := Nat × Nat
def kvsOf (n : Nat) (f : List NN) : List (List P2 × Int) := f.map fun q => (cutN n q.1, (q.2 : Int))
def lineOf (n : Nat) (f : List NN) : List (List P2) := f.map fun q => cutN n q.1
structure GoodF (n : Nat) (f : List NN) : Prop where
  lt : ∀ q ∈ f, q.1 < sizeN n
  nd : (f.map (·.1)).Nodup
theorem nodup_lt_len : ∀ (L : Nat) (l : List Nat), l.Nodup → (∀ x ∈ l, x < L) → l.length ≤ L
  | 0, [], _, _ => Nat.le_refl _
  | 0, x :: _, _, h => absurd (h x List.mem_cons_self) (Nat.not_lt_zero _)
  | L + 1, l, nd, h => by
    have ih := nodup_lt_len L (l.erase L) (nd.erase L) fun x hx => by
      have h1 := h x (List.mem_of_mem_erase hx)
      have h2 : x ≠ L := fun e => by
        rw [e] at hx
        exact (List.Nodup.not_mem_erase nd) hx
      omega
    have h3 := List.length_erase_le (a := L) (l := l)
    have h4 : l.length ≤ (l.erase L).length + 1 := by
      rw [List.length_erase]
      split <;> omega
    omega
theorem GoodF.len {n : Nat} {f : List NN} (g : GoodF n f) : f.length ≤ sizeN n := by
  have := nodup_lt_len (sizeN n) (f.map (·.1)) g.nd (fun x hx => by
    obtain ⟨q, hq, rfl⟩ := List.mem_map.mp hx
    exact g.lt q hq)
  rw [List.length_map] at this
  exact this
theorem sizeN_le (n : Nat) : sizeN n ≤ 42 := by
  unfold sizeN
  split <;> decide
theorem cutN_get {n i : Nat} (h : Poly n) (hi : i < sizeN n) : (cuts n)[i]? = some (cutN n i) := by
  have hl := (fact_sizes h).1
  unfold cutN
  rw [List.getD_eq_getElem?_getD, List.getElem?_eq_getElem (by omega)]
  rfl
theorem cutN_inj {n i j : Nat} (h : Poly n) (hi : i < sizeN n) (hj : j < sizeN n) (e : cutN n i = cutN n j) : i = j :=
  nd_ix (fact_nodup h) (cutN_get h hi) (by rw [e]; exact cutN_get h hj)
theorem kvs_lookup {n j : Nat} (h : Poly n) (hj : j < sizeN n) : ∀ {f : List NN}, (∀ q ∈ f, q.1 < sizeN n) → (kvsOf n f).lookup (cutN n j) = (f.lookup j).map fun d => (d : Int)
  | [], _ => rfl
  | (i, d) :: f, hf => by
    have ih := kvs_lookup h hj (f := f) fun q hq => hf q (List.mem_cons_of_mem _ hq)
    by_cases e : j = i
    · subst e
      have a : kvsOf n ((j, d) :: f) = (cutN n j, (d : Int)) :: kvsOf n f := rfl
      rw [a]
      simp [List.lookup]
    · have hi := hf (i, d) List.mem_cons_self
      have e1 : (j == i) = false := beq_eq_false_iff_ne.mpr e
      have e2 : (cutN n j == cutN n i) = false := beq_eq_false_iff_ne.mpr fun z => e (cutN_inj h hj hi z)
      have a : kvsOf n ((i, d) :: f) = (cutN n i, (d : Int)) :: kvsOf n f := rfl
      rw [a]
      simp only [List.lookup, e1, e2]
      exact ih
theorem lookup_at {f : List NN} (nd : (f.map (·.1)).Nodup) : ∀ {a i d : Nat}, f[a]? = some (i, d) → f.lookup i = some d := by
  induction f with
  | nil => intro a i d h; simp at h
  | cons q f ih =>
    intro a i d h
    obtain ⟨j, e⟩ := q
    rw [(List.map_cons), List.nodup_cons] at nd
    cases a with
    | zero =>
      have z : (j, e) = (i, d) := by simpa using h
      cases z
      simp [List.lookup]
    | succ a =>
      have h' : f[a]? = some (i, d) := by simpa using h
      have hm : i ∈ f.map (·.1) := List.mem_map.mpr ⟨(i, d), List.mem_of_getElem? h', rfl⟩
      have ne : (i == j) = false := beq_eq_false_iff_ne.mpr fun z => nd.1 (z ▸ hm)
      simp only [List.lookup, ne]
      exact ih nd.2 h'
theorem lookup_app {f m : List NN} {i d : Nat} (h : f.lookup i = some d) : (f ++ m).lookup i = some d := by
  induction f with
  | nil => simp at h
  | cons q f ih =>
    obtain ⟨j, e⟩ := q
    by_cases z : (i == j) = true
    · simp only [List.cons_append, List.lookup, z] at h ⊢
      exact h
    · have z' : (i == j) = false := Bool.eq_false_iff.mpr z
      simp only [List.cons_append, List.lookup, z'] at h ⊢
      exact ih h
theorem lookup_none {f : List NN} {j : Nat} (h : f.lookup j = none) : j ∉ f.map (·.1) := by
  induction f with
  | nil => simp
  | cons q f ih =>
    obtain ⟨i, e⟩ := q
    by_cases z : (j == i) = true
    · simp only [List.lookup, z] at h; cases h
    · have z' : (j == i) = false := Bool.eq_false_iff.mpr z
      simp only [List.lookup, z'] at h
      rw [List.map_cons, List.mem_cons, not_or]
      exact ⟨fun q => z (beq_iff_eq.mpr q), ih h⟩
theorem seeN_good {n d j : Nat} {f : List NN} (g : GoodF n f) (hj : j < sizeN n) : GoodF n (seeN d f j) := by
  unfold seeN
  split
  · rename_i h
    have hn : f.lookup j = none := by simpa using h
    refine ⟨fun q hq => ?_, ?_⟩
    · rcases List.mem_append.mp hq with q' | q'
      · exact g.lt q q'
      · rw [List.mem_singleton.mp q']; exact hj
    · rw [(List.map_append), List.nodup_append]
      refine ⟨g.nd, by simp, fun x hx y hy => ?_⟩
      have : y = j := by simpa using hy
      rw [this]
      intro z
      rw [z] at hx
      exact lookup_none hn hx
  · exact g
theorem seeN_more (d j : Nat) (f : List NN) : ∃ m, seeN d f j = f ++ m := by
  unfold seeN
  split
  · exact ⟨_, rfl⟩
  · exact ⟨[], (List.append_nil _).symm⟩
theorem stepN_succ {nb : List Nat} {d j k : Nat} {f : List NN} (h : nb[k]? = some j) : stepN (nb.take (k + 1)) d f = seeN d (stepN (nb.take k) d f) j := by
  unfold stepN
  rw [take_succ' h, List.foldl_append]
  rfl
end Fs
/-! Flipsheets, defs 4: nearer. -/
namespace Fs
open PySem L2 PySem.Spec PyProof.Rows
section
variable
  {P : Program}
  {w : World} {K : PySem.W.Frag} {mg : Str → Option Value} {base : Heap}
/-- the int in a slot -/
def slotN (σ : L2.St) (i : Nat) : Nat := match σ[i]? with | some (some (V.int z)) => z.toNat | _ => 0
abbrev sNear : Stmt := top 17
def spNear (P : Program) (w : World) : Sp := fun vs H Q _ => ∃ (n g : Nat) (v : V), vs = [.int n, v] ∧ Poly n ∧ g < sizeN n ∧ Ct H v (cutN n g) ∧ ∀ H' d, Same H H' → H d = none → ND P w H' d (kvsOf n (found n g)) → Q (.ref d) H'
theorem scNear : FnScope ["corners", "goal", "found", "line", "at", "diagonal", "far"] ["corners", "goal"] (defScope sNear) := ⟨rfl, rfl, rfl, by decide +kernel, rfl, by decide +kernel, by decide +kernel⟩
/-- a search's state in the heap: the dict at d, the line at p, since H -/
structure SeekAt (P : Program) (w : World) (n : Nat) (H : Hp) (d p : Addr) (H' : Hp) (f : List NN) : Prop where
  sm : Same H H'
  nd : ND P w H' d (kvsOf n f)
  ln : LsOf Ct H' p (lineOf n f)
theorem SeekAt.same {n : Nat} {H : Hp} {d p : Addr} {H' H2 : Hp} {f : List NN} (s : SeekAt P w n H d p H' f) (k : Same H' H2) : SeekAt P w n H d p H2 f := ⟨s.sm.trans k, s.nd.same k, s.ln.same Ct.mono k⟩
/-- .. at the place a of the line -/
structure SeekN (n g a : Nat) (f : List NN) : Prop where
  good : GoodF n f
  le : a ≤ f.length
  run : bfsN n (sizeN n + 1 - a) a f = found n g
theorem ok_near {f : Addr} {fd : FuncData} (B : Blt mg) (GF : Has P w K mg base CX0 3 "flipped_cutting" ["corners", "diagonals", "diagonal"] spFlip) (D : Df K mg "nearer" sNear f fd) : Has P w K mg base CX0 4 "nearer" ["corners", "goal"] (spNear P w) := by
  refine has_of D (D.fn.ok scNear (fun vs H Q E h => ?_) (fun cdv A outer s H vs Q E hr h => ?_)) (D.fn.binds fun _ _ _ _ _ _ us hl => match us, hl with | [_, _], _ => rfl)
  · obtain ⟨n, g, v, rfl, _⟩ := h
    rfl
  · obtain ⟨n, g, v, rfl, hp, hg, hc, Z⟩ := h
    have hu := hr.units
    refine ⟨_, pss_cons (ps_set (i := 2) scNear.nd rfl (.inl rfl) (pe_nd1 hu (pv 1) pe_int))
      (pss_cons (ps_set (i := 3) scNear.nd rfl (.inl rfl) (pe_lst (pa_cons (pv 1) pa_nil)))
      (pss_cons (ps_set (i := 4) scNear.nd rfl (.inl rfl) pe_int)
      (pss_cons (ps_while PassesOwn.never (pt_cmpR op_lt (pv 4) (pe_callB call_len_seq (by rfl) B.len PySem.boot_len (pa_cons (pv 3) pa_nil)) (nomark _))
        (pss_cons (ps_for PassesOwn.never rfl (pi_tup (pe_ix ix_list (pv 3) (pv 4) (fun _ _ => rfl))) (pg_name (i := 5) scNear.nd rfl (.inl rfl))
          (pss_cons (ps_set (i := 6) scNear.nd rfl (.inl rfl) (pe_has GF hr rfl pass0 (pa_cons (pv 0) (pa_cons (pe_ix ix_list (pv 3) (pv 4) (fun _ _ => rfl)) (pa_cons (pv 5) pa_nil)))))
          (pss_one (ps_if (pt_cmp (pc_ndnotin hu (pv 6) (pv 2)) rfl)
            (pss_cons (ps_ndput hu (pv 2) (pv 6) (pe_op op_add (pe_ndget hu (pv 2) (pe_ix ix_list (pv 3) (pv 4) (fun _ _ => rfl)) (fun _ _ => rfl)) pe_int) rfl)
            (pss_one (ps_expr (pe_bm PySem.F.plainAttrs_list PySem.F.slot_list_append PySem.F.type_list_append mt_append (pv 3) (pa_cons (pv 6) pa_nil))))) pss_nil))))
        (pss_one (ps_set (i := 4) scNear.nd rfl (.inl rfl) (pe_op op_add (pv 4) pe_int)))))
      (pss_one (ps_ret (pv 2)))))), ?_⟩
    refine ⟨v, cutN n g, rfl, hc, fun d φ hd nd0 => ?_⟩
    have sm0 := same_new (o := .ext φ) (Same.refl H) hd
    refine ⟨_, rfl, (by show 1 ≤ sizeLine; decide), fun p hpn => ?_⟩
    have sm1 := same_new (o := .lst [v]) sm0 hpn
    have hpH : H p = none := by
      cases e : H p with
      | none => rfl
      | some o => rw [sm0 p o e] at hpn; cases hpn
    have hdp : d ≠ p := fun z => by rw [← z, upd_same] at hpn; cases hpn
    have st0 : SeekAt P w n H d p (upd (upd H d (.ext φ)) p (.lst [v])) [(g, 0)] := ⟨sm1, nd0.same (same_new (Same.refl _) hpn), ⟨[v], upd_same, paired_one (Ct.mono _ _ _ _ (same_ts sm1) hc)⟩⟩
    have sn0 : SeekN n g 0 [(g, 0)] := ⟨⟨fun q hq => by rw [List.mem_singleton.mp hq]; exact hg, by simp⟩, Nat.zero_le _, rfl⟩
    refine while_by (fun σ H' => ∃ (a : Nat) (fl : List NN) (s5 s6 : Option V), σ = [some (.int n), some v, some (.ref d), some (.ref p), some (.int a), s5, s6] ∧ SeekAt P w n H d p H' fl ∧ SeekN n g a fl)
      (fun σ _ => sizeN n + 1 - slotN σ 4) ⟨0, _, none, none, rfl, st0, sn0⟩ ?_ ?_
    · rintro σ H1 ⟨a, fl, s5, s6, rfl, st, sn⟩
      obtain ⟨ws, hws, pws⟩ := st.ln
      have hwl : ws.length = fl.length := by rw [paired_len pws]; exact List.length_map ..
      have hfl := sn.good.len
      have hsz := sizeN_le n
      refine ⟨_, rfl, _, rfl, p, ws, rfl, .inl (SqL.of hws), _, _, rfl, rfl, _, rfl, ?_⟩
      rw [hwl]
      refine ite2 (fun x => ?_) (fun x => ?_)
      · have ha : a < fl.length := by
          have := of_decide_eq_true x
          omega
        obtain ⟨⟨i, dd⟩, hq⟩ : ∃ q, fl[a]? = some q := ⟨_, List.getElem?_eq_getElem ha⟩
        have hi : i < sizeN n := sn.good.lt _ (List.mem_of_getElem? hq)
        have hline : (lineOf n fl)[a]? = some (cutN n i) := by
          unfold lineOf
          rw [List.getElem?_map, hq]; rfl
        obtain ⟨wv, hwv, hwc⟩ := paired_at pws hline
        obtain ⟨wa, cvs, rfl, hca, pca⟩ := id hwc
        have hnb := fact_nb hp hi
        have hlen7 : (cutN n i).length ≤ 4 := by
          have := poly_le hp
          omega
        -- for diagonal in line[at]
        refine ⟨_, rfl, _, rfl, p, ws, _, _, rfl, rfl, SqL.of hws, atI_nat hwv, wa, rfl, ⟨_, SqT.of hca⟩, for_tup (K := K) (a := wa) (xs := cvs)
          (fun j σ H' => ∃ s5 s6, σ = [some (.int n), some v, some (.ref d), some (.ref p), some (.int a), s5, s6] ∧ TSm H1 H' ∧ SeekAt P w n H d p H' (stepN ((nbN n i).take j) dd fl) ∧ GoodF n (stepN ((nbN n i).take j) dd fl) ∧ ∃ m, stepN ((nbN n i).take j) dd fl = fl ++ m)
          ⟨s5, s6, rfl, TSm.rfl' _, st, sn.good, [], (List.append_nil _).symm⟩ (fun j σ H' _ ⟨_, _, _, ts, _⟩ => SqT.of (ts _ _ hca)) ?_ ?_⟩
        · rintro j y σ H2 hj ⟨s5, s6, rfl, ts, st2, gd2, m, em⟩
          obtain ⟨dg, hdg, hPd⟩ := L2.paired_get pca hj
          have hPd2 := Pr.mono _ _ _ _ ts hPd
          have hjl : j < (cutN n i).length := (List.getElem?_eq_some_iff.mp hdg).1
          have edg : (cutN n i).getD j (0, 0) = dg := by rw [List.getD_eq_getElem?_getD, hdg]; rfl
          obtain ⟨fok, ffl⟩ := fact_flip hp hi hjl
          rw [edg] at fok ffl
          obtain ⟨nj, hnj⟩ : ∃ nj, (nbN n i)[j]? = some nj := ⟨_, List.getElem?_eq_getElem (by omega)⟩
          have enj : (nbN n i).getD j 0 = nj := by rw [List.getD_eq_getElem?_getD, hnj]; rfl
          rw [enj] at ffl
          have hnjl : nj < sizeN n := hnb.2.2 nj (List.mem_of_getElem? hnj)
          generalize hF : stepN ((nbN n i).take j) dd fl = F at *
          have hstep : stepN ((nbN n i).take (j + 1)) dd fl = seeN dd F nj := by rw [stepN_succ hnj, hF]
          -- the line's item and the dict's, wherever the heap is told
          have item : ∀ {H3 : Hp}, SeekAt P w n H d p H3 F → ∃ us u, H3 p = some (.lst us) ∧ atI us (a : Int) = some u ∧ Ct H3 u (cutN n i) := by
            intro H3 s3
            obtain ⟨us, hus, pus⟩ := s3.ln
            have hl3 : (lineOf n F)[a]? = some (cutN n i) := by
              rw [em]
              unfold lineOf
              rw [List.map_append, List.getElem?_append_left (by rw [List.length_map]; exact ha)]
              exact hline
            obtain ⟨u, hu1, hu2⟩ := paired_at pus hl3
            exact ⟨us, u, hus, atI_nat hu1, hu2⟩
          obtain ⟨us, u, hus, hat, huc⟩ := item st2
          refine ⟨_, rfl, _, rfl, _, rfl, p, us, _, _, rfl, rfl, SqL.of hus, hat, _, rfl, n, u, y, cutN n i, dg, rfl, by have := poly_le hp; omega, (poly_le hp).2, huc, hPd2, fok, by omega, fun H3 r sm3 hr3 => ?_⟩
          rw [ffl] at hr3
          have st3 := st2.same sm3
          -- if far not in found
          refine ⟨_, rfl, _, rfl, d, _, cutN n nj, rfl, st3.nd, hr3, _, rfl, ?_⟩
          have hlk := kvs_lookup hp hnjl gd2.lt
          have hFl := gd2.len
          cases hlj : F.lookup nj with
          | none =>
            rw [hlj] at hlk
            have hlk' : (kvsOf n F).lookup (cutN n nj) = none := hlk
            rw [hlk']
            refine iteT ?_
            have hsee : seeN dd F nj = F ++ [(nj, dd + 1)] := by unfold seeN; rw [hlj]; rfl
            have hdd : F.lookup i = some dd := by rw [em]; exact lookup_app (lookup_at sn.good.nd hq)
            have hki := kvs_lookup hp hi gd2.lt
            rw [hdd] at hki
            obtain ⟨us3, u3, hus3, hat3, huc3⟩ := item st3
            -- found[far] = found[line[at]] + 1
            refine ⟨_, rfl, _, rfl, _, rfl, p, us3, _, _, rfl, rfl, SqL.of hus3, hat3, d, _, cutN n i, (dd : Int), rfl, st3.nd, huc3, hki, _, _, rfl, rfl, _, rfl, _, rfl, d, _, cutN n nj, (dd : Int) + 1, rfl, rfl, st3.nd, hr3, hlk', ?_, fun φ nd4 => ?_⟩
            · unfold kvsOf
              rw [List.length_map]
              omega
            · obtain ⟨φ0, hφ0⟩ := st3.nd.ext
              have ts4 : TSm H3 (upd H3 d (.ext φ)) := ts_ext hφ0
              obtain ⟨us4, hus4, pus4⟩ := st3.ln
              have hp4 : upd H3 d (.ext φ) p = some (.lst us4) := by rw [upd_ne (Ne.symm hdp)]; exact hus4
              have pus4' := pair_mono Ct.mono ts4 pus4
              have hr4 := Ct.mono _ _ _ _ ts4 hr3
              -- line.append(far)
              refine ⟨_, rfl, .inl ⟨rfl, _, SqL.of hp4⟩, _, rfl, p, us4, _, rfl, rfl, hp4, ?_, ?_⟩
              · rw [paired_len pus4, sizeLine_eq]
                unfold lineOf
                rw [List.length_map]
                omega
              · refine ⟨_, _, rfl, ?_, ⟨?_, ?_, ?_⟩, ?_, ?_⟩
                · exact ts.tr ((same_ts sm3).tr (ts4.tr (ts_lst hp4)))
                · exact same_put (same_put st3.sm hd) hpH
                · rw [hstep, hsee]
                  have e1 : kvsOf n (F ++ [(nj, dd + 1)]) = kvsOf n F ++ [(cutN n nj, (dd : Int) + 1)] := by unfold kvsOf; rw [List.map_append]; rfl
                  rw [e1]
                  exact nd4.keep (ts_lst hp4) fun φ' e => by rw [upd_ne hdp]; exact e
                · rw [hstep, hsee]
                  have e1 : lineOf n (F ++ [(nj, dd + 1)]) = lineOf n F ++ [cutN n nj] := by unfold lineOf; rw [List.map_append]; rfl
                  rw [e1]
                  exact LsOf.snoc Ct.mono hp4 pus4' hr4
                · rw [hstep]
                  exact seeN_good gd2 hnjl
                · obtain ⟨m', em'⟩ := seeN_more dd nj F
                  exact ⟨m ++ m', by rw [hstep, em', em, List.append_assoc]⟩
          | some x0 =>
            rw [hlj] at hlk
            have hlk' : (kvsOf n F).lookup (cutN n nj) = some (x0 : Int) := hlk
            rw [hlk']
            refine iteF ?_
            have hsee : seeN dd F nj = F := by unfold seeN; rw [hlj]; rfl
            refine ⟨_, _, rfl, ts.tr (same_ts sm3), ?_, ?_, ?_⟩
            · rw [hstep, hsee]; exact st3
            · rw [hstep, hsee]; exact gd2
            · rw [hstep, hsee]; exact ⟨m, em⟩
        · rintro σ H2 ⟨s5, s6, rfl, ts, st2, gd2, m, em⟩
          have hl2 : cvs.length = (nbN n i).length := by rw [paired_len pca]; exact hnb.1.symm
          rw [hl2, List.take_length] at st2 gd2 em
          refine ⟨_, rfl, _, _, rfl, rfl, ⟨a + 1, _, s5, s6, rfl, st2, ⟨gd2, ?_, ?_⟩⟩, ?_⟩
          · rw [em, List.length_append]
            omega
          · have hr := sn.run
            have ek : sizeN n + 1 - a = (sizeN n + 1 - (a + 1)) + 1 := by omega
            rw [ek] at hr
            have hb : bfsN n (sizeN n + 1 - (a + 1) + 1) a fl = bfsN n (sizeN n + 1 - (a + 1)) (a + 1) (stepN (nbN n i) dd fl) := by
              show (match fl[a]? with | none => fl | some (i, d) => bfsN n (sizeN n + 1 - (a + 1)) (a + 1) (stepN (nbN n i) d fl)) = _
              rw [hq]
            rw [← hb]
            exact hr
          · show sizeN n + 1 - ((a : Int) + 1).toNat < sizeN n + 1 - (a : Int).toNat
            omega
      · have ha : fl.length ≤ a := by
          have : ¬ ((a : Int) < (fl.length : Int)) := fun z => x (decide_eq_true z)
          omega
        have hfin : fl = found n g := by
          have hr := sn.run
          have ek : ∃ k, sizeN n + 1 - a = k + 1 := ⟨sizeN n - a, by have := sn.le; omega⟩
          obtain ⟨k, ek⟩ := ek
          rw [ek] at hr
          have hb : bfsN n (k + 1) a fl = fl := by
            show (match fl[a]? with | none => fl | some (i, d) => bfsN n k (a + 1) (stepN (nbN n i) d fl)) = _
            rw [List.getElem?_eq_none ha]
          rw [← hb]
          exact hr
        rw [hfin] at st
        exact ⟨_, rfl, Z H1 d st.sm hd st.nd⟩
    · rintro σ H1 Q1 Q2 hq ⟨x1, e1, y1, e2, p1, y2, e3, h4, i1, i2, e5, e6, k1, e7, q⟩
      exact ⟨x1, e1, y1, e2, p1, y2, e3, h4, i1, i2, e5, e6, k1, e7, hq _ _ q⟩
end
end Fs
/-! Flipsheets, the law's defs 1: _law_diagonals, _law_cross_so. -/
namespace Fs
open PySem L2 PySem.Spec PyProof.Rows
section
variable
  {P : Program}
  {w : World} {K : PySem.W.Frag} {mg : Str → Option Value} {base : Heap}
/-! ### _law_diagonals -/
abbrev sLDiag : Stmt := top 25
def dgTest (n i : Nat) (p : P2) : Bool := !(decide (i = 0) && decide (p.2 = (n : Int) - 1))
def dgI (n i k : Nat) : List P2 := ((List.range k).map fun (t : Nat) => ((i : Int), (i : Int) + 2 + (t : Int))).filter (dgTest n i)
def dgL (n k : Nat) : List P2 := (List.range k).flatMap fun i => dgI n i (n - (i + 2))
def diagsL (n : Nat) : List P2 := dgL n n
theorem dgI_succ (n i k : Nat) : dgI n i (k + 1) = dgI n i k ++ (if dgTest n i ((i : Int), (i : Int) + 2 + (k : Int)) = true then [((i : Int), (i : Int) + 2 + (k : Int))] else []) := by
  unfold dgI
  rw [List.range_succ, List.map_append, List.filter_append]
  congr 1
  rw [List.map_singleton, List.filter_cons, List.filter_nil]
theorem dgL_succ (n k : Nat) : dgL n (k + 1) = dgL n k ++ dgI n k (n - (k + 2)) := by
  unfold dgL
  rw [List.range_succ, List.flatMap_append, List.flatMap_singleton]
theorem dgI_len (n i k : Nat) : (dgI n i k).length ≤ k := by
  unfold dgI
  exact Nat.le_trans (List.length_filter_le _ _) (by rw [List.length_map, List.length_range]; exact Nat.le_refl _)
theorem dgL_len (n : Nat) : ∀ k, (dgL n k).length ≤ k * n
  | 0 => Nat.zero_le _
  | k + 1 => by
    rw [dgL_succ, List.length_append]
    have h1 := dgL_len n k
    have h2 := dgI_len n k (n - (k + 2))
    rw [Nat.add_mul]
    omega
def spLDiag : Sp := fun vs H Q _ => ∃ n : Nat, vs = [.int n] ∧ n ≤ 7 ∧ ∀ H' p, Same H H' → H p = none → LsOf Pr H' p (diagsL n) → Q (.ref p) H'
theorem scLDiag : FnScope ["_law_many_so", "_law_found", "_law_i", "_law_j"] ["_law_many_so"] (defScope sLDiag) := ⟨rfl, rfl, rfl, by decide +kernel, rfl, by decide +kernel, by decide +kernel⟩
theorem ok_ldiag {f : Addr} {fd : FuncData} (B : Blt mg) (D : Df K mg "_law_diagonals" sLDiag f fd) : Has P w K mg base CX0 1 "_law_diagonals" ["_law_many_so"] spLDiag := by
  refine has_of D (D.fn.ok scLDiag (fun vs H Q E h => ?_) (fun cdv A outer s H vs Q E hr h => ?_)) (D.fn.binds fun _ _ _ _ _ _ us hl => match us, hl with | [_], _ => rfl)
  · obtain ⟨n, rfl, _⟩ := h
    rfl
  · obtain ⟨n, rfl, hn7, Z⟩ := h
    refine ⟨_, pss_cons (ps_set (i := 1) scLDiag.nd rfl (.inl rfl) (pe_lst pa_nil))
      (pss_cons (ps_for PassesOwn.never rfl (pi_range1 (by rfl) B.range (pa_cons (pv 0) pa_nil)) (pg_name (i := 2) scLDiag.nd rfl (.inr rfl))
        (pss_one (ps_set (i := 1) scLDiag.nd rfl (.inl rfl) (pe_op op_cat (pv 1) (pe_lc (own := [("_law_j", 3)]) (g := gName 3) rfl scLDiag.nd (pi_range2 (by rfl) B.range (pa_cons (pe_op op_add (pv 2) pe_int) (pa_cons (pv 0) pa_nil))) (blkOk_by (N := ["_law_many_so", "_law_found", "_law_i", "_law_j"]) (sc := defScope sLDiag) (by decide +kernel))
          (fun _ _ _ _ _ => pg_name (i := 3) scLDiag.nd rfl (Or.inl rfl)) (fun _ _ _ _ _ => pts_one (pt_not (PW.pt (pw_and (pt_cmpR op_eq (pv 2) pe_int (nomark _)) (pw_and1 (pt_cmpR op_eq (pv 3) (pe_op op_sub (pv 0) pe_int) (nomark _)))))))
          (fun _ _ _ _ _ => pe_tup (pa_cons (pv 2) (pa_cons (pv 3) pa_nil))))))))
      (pss_one (ps_ret (pv 1)))), ?_⟩
    refine ⟨Nat.zero_le _, fun p hp => ?_⟩
    refine ⟨_, rfl, (n : Int), rfl, by omega, by omega, for_range (lo := 0) (n := (n : Int).toNat) (fun i σ H' => ∃ p s2, σ = [some (.int n), some (.ref p), s2, none] ∧ Same H H' ∧ H p = none ∧ LsOf Pr H' p (dgL n i)) ⟨p, none, rfl, same_new (Same.refl H) hp, hp, LsOf.new⟩ ?_ ?_⟩
    · rintro i σ H1 hi ⟨p, s2, rfl, sm1, hpn, ls1⟩
      have hi' : i < n := by simpa using hi
      have e2 : ((n : Int) - (0 + (i : Int) + 2)).toNat = n - (i + 2) := by omega
      obtain ⟨vs, hvs, pvs⟩ := ls1
      have hlen : (dgL n i).length ≤ 49 := by
        have h1 := dgL_len n i
        have h2 : i * n ≤ 7 * 7 := Nat.mul_le_mul (by omega) hn7
        omega
      refine ⟨_, rfl, _, rfl, _, _, rfl, rfl, _, rfl, _, _, rfl, ⟨by omega, by omega, by omega, by omega⟩, fun D hD => lc_range (lo := 0 + (i : Int) + 2) (n := ((n : Int) - (0 + (i : Int) + 2)).toNat)
        (fun k H' => Same H1 H' ∧ LsOf Pr H' D (dgI n i k)) ⟨same_new (Same.refl H1) hD, LsOf.new⟩ ?_ ?_⟩
      · rintro k H2 hk ⟨sm2, ls2⟩
        rw [e2] at hk
        obtain ⟨us, hus, pus⟩ := ls2
        have hul : us.length < sizeLine := by
          rw [paired_len pus, sizeLine_eq]
          have := dgI_len n i k
          omega
        have e3 : (0 : Int) + (i : Int) + 2 + (k : Int) = (i : Int) + 2 + (k : Int) := by omega
        refine ⟨rfl, _, rfl, rfl, _, rfl, ?_⟩
        have yes : dgTest n i ((i : Int), (i : Int) + 2 + (k : Int)) = true → ∀ H3, Same H2 H3 → tTup (tCons (tVar 2) (tCons (tVar 3) tNil)) [some (.int n), some (.ref p), some (.int (0 + (i : Int))), some (.int (0 + (i : Int) + 2 + (k : Int)))] H3 (fun y H4 => ∃ acc, H4 D = some (.lst acc) ∧ acc.length < sizeLine ∧ (Same H1 (upd H4 D (.lst (acc ++ [y]))) ∧ LsOf Pr (upd H4 D (.lst (acc ++ [y]))) D (dgI n i (k + 1)))) := by
          intro ht H3 sm3
          refine ⟨_, rfl, _, rfl, (by show 2 ≤ sizeLine; decide), fun t htn => ?_⟩
          refine ⟨us, kept1 htn (sm3 _ _ hus), hul, same_put (same_new (sm2.trans sm3) htn) hD, ?_⟩
          rw [dgI_succ, if_pos ht]
          refine LsOf.snoc Pr.mono (kept1 htn (sm3 _ _ hus)) (pair_mono Pr.mono ((same_ts sm3).tr (ts_new htn)) pus) ⟨t, rfl, ?_⟩
          rw [upd_same]
          show some (HO.tup [V.int (0 + (i : Int)), V.int (0 + (i : Int) + 2 + (k : Int))]) = some (HO.tup [V.int (i : Int), V.int ((i : Int) + 2 + (k : Int))])
          rw [e3, Int.zero_add]
        have di : decide (V.int (0 + (i : Int)) = V.int 0) = decide (i = 0) := by
          rw [dec_int, Bool.beq_eq_decide_eq]
          by_cases z : i = 0
          · subst z; rfl
          · rw [decide_eq_false (by omega), decide_eq_false z]
        rw [di]
        refine ite2 (fun x => ?_) (fun x => ?_)
        · refine ⟨_, rfl, _, rfl, _, _, rfl, rfl, rfl, _, rfl, ?_⟩
          rw [dec_int, Bool.beq_eq_decide_eq, e3]
          have et : dgTest n i ((i : Int), (i : Int) + 2 + (k : Int)) = !decide ((i : Int) + 2 + (k : Int) = (n : Int) - 1) := by
            unfold dgTest
            rw [x, Bool.true_and]
          refine ite2 (fun y => ?_) (fun y => ?_)
          · have := yes (et.trans y) H2 (Same.refl H2)
            rw [e3] at this
            exact this
          · refine ⟨sm2, ?_⟩
            rw [dgI_succ, if_neg (fun z => y (et.symm.trans z)), List.append_nil]
            exact ⟨us, hus, pus⟩
        · refine iteT ?_
          have et : dgTest n i ((i : Int), (i : Int) + 2 + (k : Int)) = true := by
            unfold dgTest
            rw [Bool.eq_false_iff.mpr x]; rfl
          exact yes et H2 (Same.refl H2)
      · rintro H2 ⟨sm2, ls2⟩
        rw [e2] at ls2
        obtain ⟨us, hus, pus⟩ := ls2
        have hz : vs.length + us.length ≤ sizeLine := by
          rw [paired_len pvs, paired_len pus, sizeLine_eq]
          have := dgI_len n i (n - (i + 2))
          omega
        refine ⟨p, D, vs, us, rfl, rfl, sm2 _ _ hvs, hus, hz, fun q hq => ⟨q, _, rfl, same_new (sm1.trans sm2) hq, (sm1.trans sm2).free hq, ?_⟩⟩
        rw [dgL_succ]
        exact ⟨_, upd_same, paired_app (pair_mono Pr.mono ((same_ts sm2).tr (ts_new hq)) pvs) (pair_mono Pr.mono (ts_new hq) pus)⟩
    · rintro σ H1 ⟨p, s2, rfl, sm1, hpn, ls1⟩
      exact ⟨_, rfl, Z H1 p sm1 hpn ls1⟩
/-! ### _law_cross_so -/
abbrev sLCross : Stmt := top 26
def insL (p : P2) (x : Int) : Bool := decide (p.1 < x) && decide (x < p.2)
def outL (p : P2) (x : Int) : Bool := decide (x < p.1) || decide (p.2 < x)
def crossL (p q : P2) : Bool := decide (([q.1, q.2].filter (insL p)).length = 1) && decide (([q.1, q.2].filter (outL p)).length = 1)
def spLCross : Sp := fun vs H Q _ => ∃ (v u : V) (p q : P2), vs = [v, u] ∧ Pr H v p ∧ Pr H u q ∧ ∀ H', Same H H' → Q (.bl (crossL p q)) H'
theorem scLCross : FnScope ["_law_one", "_law_other", "_law_inside", "_law_outside", "_law_corner"] ["_law_one", "_law_other"] (defScope sLCross) := ⟨rfl, rfl, rfl, by decide +kernel, rfl, by decide +kernel, by decide +kernel⟩
/-- an item of two ints -/
theorem item2 {i j : Int} {k : Nat} {y : V} (h : [V.int i, V.int j][k]? = some y) : ∃ z, [i, j][k]? = some z ∧ y = V.int z := by
  have h' : ([i, j].map V.int)[k]? = some y := h
  rw [List.getElem?_map] at h'
  cases e : [i, j][k]? with
  | none => (rw [e] at h'; cases h')
  | some z => rw [e] at h'; exact ⟨z, rfl, (Option.some.inj h').symm⟩
theorem filt2 {i j : Int} (f : Int → Bool) (k : Nat) : (([i, j].take k).filter f).length < sizeLine := by
  refine Nat.lt_of_le_of_lt (List.length_filter_le _ _) ?_
  rw [List.length_take, sizeLine_eq]
  show min k 2 < 16777216
  omega
theorem ok_lcross {f : Addr} {fd : FuncData} (B : Blt mg) (D : Df K mg "_law_cross_so" sLCross f fd) : Has P w K mg base CX0 1 "_law_cross_so" ["_law_one", "_law_other"] spLCross := by
  refine has_of D (D.fn.ok scLCross (fun vs H Q E h => ?_) (fun cdv A outer s H vs Q E hr h => ?_)) (D.fn.binds fun _ _ _ _ _ _ us hl => match us, hl with | [_, _], _ => rfl)
  · obtain ⟨v, u, p, q, rfl, _⟩ := h
    rfl
  · obtain ⟨v, u, ⟨i, j⟩, ⟨k, l⟩, rfl, ⟨a, rfl, ha⟩, ⟨b, rfl, hb⟩, Z⟩ := h
    have ha' : H a = some (.tup [.int i, .int j]) := ha
    have hb' : H b = some (.tup [.int k, .int l]) := hb
    have a0 : atI [V.int i, V.int j] 0 = some (.int i) := rfl
    have a1 : atI [V.int i, V.int j] 1 = some (.int j) := rfl
    refine ⟨_, pss_cons (ps_setLc (i := 2) (own := [("_law_corner", 4)]) (g := gName 4) rfl scLCross.nd rfl rfl (sw_true rfl rfl rfl (by decide +kernel)) (pi_tup (pv 1)) (blkOk_by (N := ["_law_one", "_law_other", "_law_inside", "_law_outside", "_law_corner"]) (sc := defScope sLCross) (by decide +kernel))
        (fun _ _ _ _ _ => pg_name (i := 4) scLCross.nd rfl (Or.inl rfl)) (fun _ _ _ _ _ => pts_one (pt_chain op_lt op_lt (pe_ix (r := rIxT K) ix_tup (pv 0) pe_int (fun _ _ => rfl)) (pv 4) (pe_ix (r := rIxT K) ix_tup (pv 0) pe_int (fun _ _ => rfl)))) (fun _ _ _ _ _ => pv 4))
      (pss_cons (ps_setLc (i := 3) (own := [("_law_corner", 4)]) (g := gName 4) rfl scLCross.nd rfl rfl (sw_true rfl rfl rfl (by decide +kernel)) (pi_tup (pv 1)) (blkOk_by (N := ["_law_one", "_law_other", "_law_inside", "_law_outside", "_law_corner"]) (sc := defScope sLCross) (by decide +kernel))
        (fun _ _ _ _ _ => pg_name (i := 4) scLCross.nd rfl (Or.inl rfl)) (fun _ _ _ _ _ => pts_one (PW.pt (pw_or (pt_cmpR op_lt (pv 4) (pe_ix (r := rIxT K) ix_tup (pv 0) pe_int (fun _ _ => rfl)) (nomark _)) (pw_or1 (pt_cmpR op_gt (pv 4) (pe_ix (r := rIxT K) ix_tup (pv 0) pe_int (fun _ _ => rfl)) (nomark _)))))) (fun _ _ _ _ _ => pv 4))
      (pss_one (ps_ret (pe_and (pe_cmpR op_eq (pe_callB call_len_seq (by rfl) B.len PySem.boot_len (pa_cons (pv 2) pa_nil)) pe_int (nomark _)) (pe_one (pe_cmpR op_eq (pe_callB call_len_seq (by rfl) B.len PySem.boot_len (pa_cons (pv 3) pa_nil)) pe_int (nomark _))))))), ?_⟩
    refine ⟨_, rfl, b, rfl, ⟨_, SqT.of hb'⟩, fun D hD => lc_tup (K := K) (a := b) (xs := [.int k, .int l]) (fun t H' => Same H H' ∧ H' D = some (.lst ((([k, l].take t).filter (insL (i, j))).map V.int))) ⟨same_new (Same.refl H) hD, upd_same⟩ (fun t H' _ s => SqT.of (s.1 _ _ hb')) ?_ ?_⟩
    · rintro t y H2 ht ⟨sm2, hD2⟩
      obtain ⟨z, hz, rfl⟩ := item2 ht
      have hfs := filter_snoc (f := insL (i, j)) hz
      have yes : insL (i, j) z = true → ∃ acc, H2 D = some (.lst acc) ∧ acc.length < sizeLine ∧ (Same H (upd H2 D (.lst (acc ++ [V.int z]))) ∧ upd H2 D (.lst (acc ++ [V.int z])) D = some (.lst ((([k, l].take (t + 1)).filter (insL (i, j))).map V.int))) := fun e => by
        refine ⟨_, hD2, by rw [List.length_map]; exact filt2 _ _, same_put sm2 hD, ?_⟩
        rw [hfs, if_pos e, List.map_append]
        exact upd_same
      have no : insL (i, j) z = false → Same H H2 ∧ H2 D = some (.lst ((([k, l].take (t + 1)).filter (insL (i, j))).map V.int)) := fun e => by
        refine ⟨sm2, ?_⟩
        rw [hfs, if_neg (by rw [e]; exact Bool.false_ne_true), List.append_nil]
        exact hD2
      refine ⟨rfl, _, rfl, a, _, _, _, rfl, rfl, SqT.of (sm2 _ _ ha'), a0, _, rfl, _, _, rfl, rfl, _, rfl, ite2 (fun x => ?_) (fun x => ?_)⟩
      · refine ⟨_, rfl, a, _, _, _, rfl, rfl, SqT.of (sm2 _ _ ha'), a1, _, _, rfl, rfl, _, rfl, ite2 (fun y => ?_) (fun y => ?_)⟩
        · exact ⟨_, rfl, yes (by unfold insL; rw [show decide ((i, j).1 < z) = true from x, show decide (z < (i, j).2) = true from y]; rfl)⟩
        · exact no (by unfold insL; rw [show decide (z < (i, j).2) = false from Bool.eq_false_iff.mpr y, Bool.and_false])
      · exact ⟨_, rfl, iteF (no (by unfold insL; rw [show decide ((i, j).1 < z) = false from Bool.eq_false_iff.mpr x, Bool.false_and]))⟩
    · rintro H2 ⟨sm2, hD2⟩
      have hD2' : H2 D = some (.lst (([k, l].filter (insL (i, j))).map V.int)) := hD2
      refine ⟨_, rfl, b, rfl, ⟨_, SqT.of (sm2 _ _ hb')⟩, fun D2 hD3 => lc_tup (K := K) (a := b) (xs := [.int k, .int l]) (fun t H' => Same H2 H' ∧ H' D2 = some (.lst ((([k, l].take t).filter (outL (i, j))).map V.int))) ⟨same_new (Same.refl H2) hD3, upd_same⟩ (fun t H' _ s => SqT.of (s.1 _ _ (sm2 _ _ hb'))) ?_ ?_⟩
      · rintro t y H3 ht ⟨sm3, hD4⟩
        obtain ⟨z, hz, rfl⟩ := item2 ht
        have hfs := filter_snoc (f := outL (i, j)) hz
        have ha3 := (sm2.trans sm3) _ _ ha'
        have yes : outL (i, j) z = true → ∃ acc, H3 D2 = some (.lst acc) ∧ acc.length < sizeLine ∧ (Same H2 (upd H3 D2 (.lst (acc ++ [V.int z]))) ∧ upd H3 D2 (.lst (acc ++ [V.int z])) D2 = some (.lst ((([k, l].take (t + 1)).filter (outL (i, j))).map V.int))) := fun e => by
          refine ⟨_, hD4, by rw [List.length_map]; exact filt2 _ _, same_put sm3 hD3, ?_⟩
          rw [hfs, if_pos e, List.map_append]
          exact upd_same
        have no : outL (i, j) z = false → Same H2 H3 ∧ H3 D2 = some (.lst ((([k, l].take (t + 1)).filter (outL (i, j))).map V.int)) := fun e => by
          refine ⟨sm3, ?_⟩
          rw [hfs, if_neg (by rw [e]; exact Bool.false_ne_true), List.append_nil]
          exact hD4
        refine ⟨rfl, _, rfl, _, rfl, a, _, _, _, rfl, rfl, SqT.of ha3, a0, _, _, rfl, rfl, _, rfl, ite2 (fun x => ?_) (fun x => ?_)⟩
        · exact iteT ⟨_, rfl, yes (by unfold outL; rw [show decide (z < (i, j).1) = true from x]; rfl)⟩
        · refine ⟨_, rfl, _, rfl, a, _, _, _, rfl, rfl, SqT.of ha3, a1, _, _, rfl, rfl, _, rfl, ite2 (fun y => ?_) (fun y => ?_)⟩
          · exact ⟨_, rfl, yes (by unfold outL; rw [show decide ((i, j).2 < z) = true from y, Bool.or_true])⟩
          · exact no (by unfold outL; rw [show decide ((i, j).2 < z) = false from Bool.eq_false_iff.mpr y, show decide (z < (i, j).1) = false from Bool.eq_false_iff.mpr x]; rfl)
      · rintro H3 ⟨sm3, hD4⟩
        have hD4' : H3 D2 = some (.lst (([k, l].filter (outL (i, j))).map V.int)) := hD4
        have el : ∀ m : List Int, decide (V.int (((m.map V.int).length : Nat) : Int) = V.int 1) = decide (m.length = 1) := fun m => by
          rw [dec_int, List.length_map, Bool.beq_eq_decide_eq]
          by_cases z : m.length = 1
          · rw [decide_eq_true z, decide_eq_true (by omega)]
          · rw [decide_eq_false z, decide_eq_false (by omega)]
        have Z' := Z H3 (sm2.trans sm3)
        unfold crossL at Z'
        refine ⟨_, rfl, D, _, rfl, .inl (SqL.of (sm3 _ _ hD2')), rfl, _, rfl, ?_⟩
        rw [el]
        refine ite2 (fun x => ?_) (fun x => ?_)
        · rw [show decide (([(k, l).1, (k, l).2].filter (insL (i, j))).length = 1) = true from x, Bool.true_and] at Z'
          refine ⟨_, rfl, D2, _, rfl, .inl (SqL.of hD4'), rfl, ?_⟩
          rw [el]
          exact Z'
        · rw [show decide (([(k, l).1, (k, l).2].filter (insL (i, j))).length = 1) = false from Bool.eq_false_iff.mpr x, Bool.false_and] at Z'
          exact Z'
end
end Fs
/-! Flipsheets, the law's defs 2: _law_all_cuttings, _law_flipped_so. -/
namespace Fs
open PySem L2 PySem.Spec PyProof.Rows
/-! ### the mirrors -/
def crN (row : List P2) (o : P2) : Nat := cntB (fun x => crossL x o) row row.length
def lastP (row : List P2) : P2 := row.getLastD (0, 0)
def extT (row : List P2) (o : P2) : Bool := (decide (row = []) || ltP (lastP row) o) && decide (crN row o = 0)
def extR (n : Nat) (row : List P2) : List (List P2) := ((diagsL n).filter (extT row)).map fun o => row ++ [o]
def allL (n : Nat) : Nat → List (List P2)
  | 0 => [[]]
  | k + 1 => (allL n k).flatMap (extR n)
def candL (c : List P2) (d o : P2) : Bool := decide (o ≠ d) && (decide (o ∉ keptP c d) && decide (crN (keptP c d) o = 0))
def flipL (n : Nat) (c : List P2) (d : P2) : Option (List P2) := ((diagsL n).find? (candL c d)).map fun o => sortP (keptP c d ++ [o])
def chkAll (n : Nat) : Bool := decide (allL n (n - 3) = cuts n) && ((List.range 5).all fun k => decide ((allL n k).length ≤ 1000))
theorem chkAll_ok {n : Nat} (h : Poly n) : chkAll n = true := poly_all (p := chkAll) (by decide +kernel) h
theorem fact_all {n : Nat} (h : Poly n) : allL n (n - 3) = cuts n ∧ ∀ k, k ≤ 4 → (allL n k).length ≤ 1000 := by
  have z := chkAll_ok h
  unfold chkAll at z
  rw [Bool.and_eq_true] at z
  exact ⟨of_decide_eq_true z.1, fun k hk => of_decide_eq_true (all_range z.2 (by omega))⟩
def chkFlipL (n : Nat) : Bool := (List.range (sizeN n)).all fun i => (List.range (cutN n i).length).all fun k => decide (flipL n (cutN n i) ((cutN n i).getD k (0, 0)) = some (cutN n ((nbN n i).getD k 0)))
theorem chkFlipL_ok {n : Nat} (h : Poly n) : chkFlipL n = true := poly_all (p := chkFlipL) (by decide +kernel) h
theorem fact_flipL {n i k : Nat} (h : Poly n) (hi : i < sizeN n) (hk : k < (cutN n i).length) : flipL n (cutN n i) ((cutN n i).getD k (0, 0)) = some (cutN n ((nbN n i).getD k 0)) :=
  of_decide_eq_true (all_range (all_range (chkFlipL_ok h) hi) hk)
def chkSort (n : Nat) : Bool := decide ((cuts n).Pairwise fun a b => PySem.W.dataLe false dC a b = true)
theorem chkSort_ok {n : Nat} (h : Poly n) : chkSort n = true := poly_all (p := chkSort) (by decide +kernel) h
theorem fact_sort {n : Nat} (h : Poly n) : (cuts n).mergeSort (PySem.W.dataLe false dC) = cuts n := List.mergeSort_of_pairwise (of_decide_eq_true (chkSort_ok h))
end Fs
/-! Flipsheets, the law's defs 3: _law_all_cuttings, _law_flipped_so walked. -/
namespace Fs
open PySem L2 PySem.Spec PyProof.Rows
theorem paired_snoc {α β : Type} {F : α → β → Prop} {y : β} : ∀ {xs : List α} {ys : List β}, Paired F xs (ys ++ [y]) → ∃ xs0 x, xs = xs0 ++ [x] ∧ Paired F xs0 ys ∧ F x y
  | _, [], h => by
    cases h with
    | cons r t => cases t; exact ⟨[], _, rfl, .nil, r⟩
  | _, z :: ys, h => by
    cases h with
    | cons r t =>
      obtain ⟨xs0, x, e, p, q⟩ := paired_snoc (ys := ys) t
      exact ⟨_ :: xs0, x, by rw [e]; rfl, .cons r p, q⟩
theorem alikeAll_dP : ∀ c d : List P2, PySem.W.alikeAll (c.map dP) (d.map dP) = true
  | [], _ => by simp [PySem.W.alikeAll]
  | _ :: _, [] => by simp [PySem.W.alikeAll]
  | p :: c, q :: d => by rw [List.map_cons, List.map_cons, PySem.W.alikeAll, alike_dP, alikeAll_dP c d]; rfl
theorem alike_dC (c d : List P2) : PySem.W.alike (dC c) (dC d) = true := by
  unfold dC
  rw [PySem.W.alike]
  exact alikeAll_dP c d
section
variable
  {P : Program}
  {w : World} {K : PySem.W.Frag} {mg : Str → Option Value} {base : Heap}
theorem rowLen {n i : Nat} {row : List P2} (_ : n ≤ 7) (hi : i < 4) (h : row ∈ allL n i) : row.length ≤ 8 := by
  have gen : ∀ k r, r ∈ allL n k → r.length = k := by
    intro k
    induction k with
    | zero =>
      intro r h
      have e : r = [] := by simpa [allL] using h
      rw [e]; rfl
    | succ k ih =>
      intro r h
      obtain ⟨r0, h0, h1⟩ := List.mem_flatMap.mp (show r ∈ (allL n k).flatMap (extR n) from h)
      unfold extR at h1
      obtain ⟨o, _, rfl⟩ := List.mem_map.mp h1
      rw [List.length_append, ih r0 h0]; rfl
  have := gen i row h
  omega
theorem diagsL_len {n : Nat} (h : n ≤ 7) : (diagsL n).length ≤ 49 := by
  have h1 := dgL_len n n
  have h2 : n * n ≤ 7 * 7 := Nat.mul_le_mul h h
  unfold diagsL
  omega
/-- (a or b), what follows told once -/
theorem or_by {t u : TT} {σ : L2.St} {H : Hp} {Q : Bool → Hp → Prop} (b0 : Bool) (R : Hp → Prop) (hQ : ∀ H5, R H5 → Q b0 H5) (h : (∀ H5, R H5 → Q b0 H5) → tOr t u σ H Q) : tOr t u σ H Q := h hQ
theorem lastP_snoc (r : List P2) (x : P2) : lastP (r ++ [x]) = x := by
  unfold lastP
  rw [List.getLastD_eq_getLast?, List.getLast?_append]
  rfl
theorem snoc_or (r : List P2) : r = [] ∨ ∃ r0 x, r = r0 ++ [x] := by
  cases h : r.reverse with
  | nil => exact .inl (List.reverse_eq_nil_iff.mp h)
  | cons x l => exact .inr ⟨l.reverse, x, by rw [← List.reverse_reverse r, h, List.reverse_cons]⟩
theorem eqv_dC_nil (c : List P2) : PyData.eqv (dC c) (.tuple []) = decide (c = []) := by
  have e := eqv_dC c []
  exact e
abbrev sLAll : Stmt := top 27
def spLAll : Sp := fun vs H Q _ => ∃ n : Nat, vs = [.int n] ∧ Poly n ∧ 4 ≤ n ∧ ∀ H' p, Same H H' → H p = none → LsOf Ct H' p (cuts n) → Q (.ref p) H'
theorem scLAll : FnScope ["_law_many_so", "_law_found", "_law_step", "_law_more", "_law_row_here", "_law_other", "_law_one"] ["_law_many_so"] (defScope sLAll) := ⟨rfl, rfl, rfl, by decide +kernel, rfl, by decide +kernel, by decide +kernel⟩
theorem ok_lall {f : Addr} {fd : FuncData} (B : Blt mg) (GD : Has P w K mg base CX0 1 "_law_diagonals" ["_law_many_so"] spLDiag) (GC : Has P w K mg base CX0 1 "_law_cross_so" ["_law_one", "_law_other"] spLCross)
    (D : Df K mg "_law_all_cuttings" sLAll f fd) : Has P w K mg base CX0 2 "_law_all_cuttings" ["_law_many_so"] spLAll := by
  refine has_of D (D.fn.ok scLAll (fun vs H Q E h => ?_) (fun cdv A outer s H vs Q E hr h => ?_)) (D.fn.binds fun _ _ _ _ _ _ us hl => match us, hl with | [_], _ => rfl)
  · obtain ⟨n, rfl, _⟩ := h
    rfl
  · obtain ⟨n, rfl, hp, hn4, Z⟩ := h
    have hn7 := (poly_le hp).2
    have hu := hr.units
    refine ⟨_, pss_cons (ps_set (i := 1) scLAll.nd rfl (.inl rfl) (pe_lst (pa_cons (pe_tup pa_nil) pa_nil)))
      (pss_cons (ps_for PassesOwn.never rfl (pi_range1 (by rfl) B.range (pa_cons (pe_op op_sub (pv 0) pe_int) pa_nil)) (pg_name (i := 2) scLAll.nd rfl (.inl rfl))
        (pss_cons (ps_set (i := 3) scLAll.nd rfl (.inl rfl) (pe_lst pa_nil))
        (pss_cons (ps_for PassesOwn.never rfl (pi_list (pv 1)) (pg_name (i := 4) scLAll.nd rfl (.inl rfl))
          (pss_one (ps_for PassesOwn.never rfl (pi_list (pe_has GD hr rfl pass0 (pa_cons (pv 0) pa_nil))) (pg_name (i := 5) scLAll.nd rfl (.inr rfl))
            (pss_one (ps_if (PW.pt (pw_and (PW.pt (pw_or (pt_cmpR (op_eqQ hu) (pv 4) (pe_tup pa_nil) (nomark _)) (pw_or1 (pt_cmpR (op_gtP hu) (pv 5) (pe_ix ix_tup (pv 4) (pe_un un_neg pe_int) (fun _ _ => rfl)) (nomark _)))))
                (pw_and1 (pt_cmpR (op_onesEq hu) (pe_lc (own := [("_law_one", 6)]) (g := gName 6) rfl scLAll.nd (pi_tup (pv 4)) (blkOk_by (N := ["_law_many_so", "_law_found", "_law_step", "_law_more", "_law_row_here", "_law_other", "_law_one"]) (sc := defScope sLAll) (by decide +kernel))
                  (fun _ _ _ _ _ => pg_name (i := 6) scLAll.nd rfl (Or.inl rfl)) (fun _ _ _ _ _ => pts_one (pt_val (pe_has GC hr rfl pass0 (pa_cons (pv 6) (pa_cons (pv 5) pa_nil))))) (fun _ _ _ _ _ => pe_int)) (pe_lst pa_nil) (nomark _)))))
              (pss_one (ps_expr (pe_bm PySem.F.plainAttrs_list PySem.F.slot_list_append PySem.F.type_list_append mt_append (pv 3) (pa_cons (pe_op op_catA (pv 4) (pe_tup (pa_cons (pv 5) pa_nil))) pa_nil)))) pss_nil)))))
        (pss_one (ps_set (i := 1) scLAll.nd rfl (.inl rfl) (pe_callTy call_list_of (by rfl) B.list PyProof.Rows.boot_list (pa_cons (pv 3) pa_nil)))))))
      (pss_one (ps_ret (pe_callB (call_sortedD Ct dC hu (fun H v b r => Ct.dp r)) (by rfl) B.sorted PyProof.Rows.boot_sorted (pa_cons (pv 1) pa_nil))))), ?_⟩
    refine ⟨Nat.zero_le _, fun t0 ht0 => ⟨(by show 1 ≤ sizeLine; decide), fun p hpn => ?_⟩⟩
    have sm0 := same_new (o := .lst [.ref t0]) (same_new (o := .tup []) (Same.refl H) ht0) hpn
    have hpH : H p = none := (same_new (o := .tup []) (Same.refl H) ht0).free hpn
    refine ⟨_, rfl, _, _, rfl, rfl, ((n : Int) - 3), rfl, by omega, by omega, for_range (lo := 0) (n := ((n : Int) - 3).toNat) (fun i σ H' => ∃ q s2 s3 s4 s5, σ = [some (.int n), some (.ref q), s2, s3, s4, s5, none] ∧ Same H H' ∧ H q = none ∧ LsOf Ct H' q (allL n i))
      ⟨p, none, none, none, none, rfl, sm0, hpH, ⟨[.ref t0], upd_same, paired_one ⟨t0, [], rfl, kept1 hpn upd_same, .nil⟩⟩⟩ ?_ ?_⟩
    · rintro i σ H1 hi ⟨q, s2, s3, s4, s5, rfl, sm1, hqn, ls1⟩
      have hi4 : i < 4 := by omega
      have hrl := (fact_all hp).2 i (by omega)
      obtain ⟨rvs, hrvs, prvs⟩ := ls1
      refine ⟨Nat.zero_le _, fun m hm => ?_⟩
      have sm2 := same_new (o := .lst []) (Same.refl H1) hm
      have hqm : q ≠ m := ne_of_none hrvs hm
      have hmH : H m = none := sm1.free hm
      -- for row in found
      refine ⟨_, rfl, q, rfl, ⟨_, SqL.of (sm2 _ _ hrvs)⟩, for_list (K := K) (a := q) (xs := rvs) (fun t σ H' => ∃ s2 s4 s5, σ = [some (.int n), some (.ref q), s2, some (.ref m), s4, s5, none] ∧ But m (upd H1 m (.lst [])) H' ∧ LsOf Ct H' m (((allL n i).take t).flatMap (extR n)))
        ⟨_, s4, s5, rfl, But.rf _ _, LsOf.new⟩ (fun t σ H' _ ⟨_, _, _, _, b, _⟩ => SqL.of (b _ _ hqm (sm2 _ _ hrvs))) ?_ ?_⟩
      · rintro t y σ H2 ht ⟨s2, s4, s5, rfl, bt, ls2⟩
        obtain ⟨row, hrow, hRow⟩ := L2.paired_get prvs ht
        have ts2 : TSm (upd H1 m (.lst [])) H2 := bt.ts upd_same
        have hRow2 := Ct.mono _ _ _ _ ((same_ts sm2).tr ts2) hRow
        have htl : t < (allL n i).length := (List.getElem?_eq_some_iff.mp hrow).1
        have hpre : (((allL n i).take t).flatMap (extR n)).length ≤ 49 * t := by
          have gen : ∀ l : List (List P2), (l.flatMap (extR n)).length ≤ 49 * l.length := by
            intro l
            induction l with
            | nil => exact Nat.zero_le _
            | cons r l ih =>
              rw [List.flatMap_cons, List.length_append, List.length_cons]
              have : (extR n r).length ≤ 49 := by
                unfold extR
                rw [List.length_map]
                exact Nat.le_trans (List.length_filter_le _ _) (diagsL_len hn7)
              omega
          have := gen ((allL n i).take t)
          rw [List.length_take] at this
          omega
        -- for other in _law_diagonals(n)
        refine ⟨_, rfl, n, rfl, hn7, fun H3 pd sm3 hpd ⟨dvs, hdvs, pdvs⟩ => ?_⟩
        have hm2 : ∃ mvs, H2 m = some (.lst mvs) := let ⟨mvs, e, _⟩ := ls2; ⟨mvs, e⟩
        obtain ⟨mvs, hmvs⟩ := hm2
        have hpdm : pd ≠ m := fun z => by rw [z, hmvs] at hpd; cases hpd
        have hm3 := sm3 _ _ hmvs
        refine ⟨pd, rfl, ⟨_, SqL.of hdvs⟩, for_list (K := K) (a := pd) (xs := dvs) (fun j σ H' => ∃ s5, σ = [some (.int n), some (.ref q), s2, some (.ref m), some y, s5, none] ∧ But m H3 H' ∧ LsOf Ct H' m (((allL n i).take t).flatMap (extR n) ++ (((diagsL n).take j).filter (extT row)).map fun o => row ++ [o]))
          ⟨s5, rfl, But.rf _ _, by
            have e : ((allL n i).take t).flatMap (extR n) ++ (((diagsL n).take 0).filter (extT row)).map (fun o => row ++ [o]) = ((allL n i).take t).flatMap (extR n) := List.append_nil _
            rw [e]; exact ls2.same Ct.mono sm3⟩ (fun j σ H' _ ⟨_, _, b, _⟩ => SqL.of (b _ _ hpdm hdvs)) ?_ ?_⟩
        · rintro j z σ H4 hj ⟨s5, rfl, bt4, ls4⟩
          obtain ⟨o, ho, hO⟩ := L2.paired_get pdvs hj
          have ts4 : TSm H3 H4 := bt4.ts hm3
          have hO4 := Pr.mono _ _ _ _ ts4 hO
          have hRow4 := Ct.mono _ _ _ _ ((same_ts sm3).tr ts4) hRow2
          have hjl : j < (diagsL n).length := (List.getElem?_eq_some_iff.mp ho).1
          have hdl := diagsL_len hn7
          have hfs := filter_snoc (f := extT row) ho
          -- what follows where the row is not lengthened, lengthened
          have no : extT row o = false → ∀ H5, Same H4 H5 → ∃ s5, [some (V.int n), some (V.ref q), s2, some (V.ref m), some y, some z, none] = [some (V.int n), some (V.ref q), s2, some (V.ref m), some y, s5, none] ∧ But m H3 H5 ∧ LsOf Ct H5 m (((allL n i).take t).flatMap (extR n) ++ (((diagsL n).take (j + 1)).filter (extT row)).map fun o => row ++ [o]) := fun e H5 sm5 => by
            refine ⟨_, rfl, bt4.tr (But.of sm5), ?_⟩
            rw [hfs, if_neg (by rw [e]; exact Bool.false_ne_true), List.append_nil]
            exact ls4.same Ct.mono sm5
          obtain ⟨ra, rvs', rfl, hra, pra⟩ := id hRow4
          refine or_by (decide (row = []) || ltP (lastP row) o) (fun H5 => Same H4 H5) (fun H5 sm5 => ?_) (fun k => ?_)
          · refine ite2 (fun x => ?_) (fun x => ?_)
            · -- [1 for _law_one in row if ..] == []
              have hra5 := sm5 _ _ hra
              refine ⟨_, rfl, ra, rfl, ⟨_, SqT.of hra5⟩, fun D hD => lc_tup (K := K) (a := ra) (xs := rvs') (fun k H' => Same H5 H' ∧ Ones H' D (cntB (fun x => crossL x o) row k)) ⟨same_new (Same.refl H5) hD, upd_same⟩ (fun k H' _ s => SqT.of (s.1 _ _ hra5)) ?_ ?_⟩
              · rintro k y6 H6 hk ⟨sm6, on6⟩
                obtain ⟨pq, hpq, hPr⟩ := L2.paired_get pra hk
                have sm46 := sm5.trans sm6
                refine ⟨rfl, _, rfl, _, rfl, y6, z, pq, o, rfl, Pr.mono _ _ _ _ (same_ts sm46) hPr, Pr.mono _ _ _ _ (same_ts sm46) hO4, fun H7 sm7 => ⟨_, rfl, ?_⟩⟩
                have hcl := cntB_le (bad := fun x => crossL x o) (l := row) (i := k)
                rw [cntB_succ hpq]
                refine ite2 (fun w1 => ?_) (fun w1 => ?_)
                · refine ⟨_, sm7 _ _ on6, ?_, same_put (sm6.trans sm7) hD, ?_⟩
                  · rw [List.length_replicate]
                    have h1 : row.length = rvs'.length := (paired_len pra).symm
                    have h2 := (List.getElem?_eq_some_iff.mp hk).1
                    have h3 : rvs'.length ≤ sizeLine := by
                      have h4 : row.length ≤ 8 := by
                        have h5 := (fact_all hp).2
                        exact rowLen hn7 hi4 (List.mem_of_getElem? hrow)
                      rw [sizeLine_eq]; omega
                    rw [h1] at hcl
                    have h6 : cntB (fun x => crossL x o) row k ≤ 8 := by
                      have h5 : row.length ≤ 8 := rowLen hn7 hi4 (List.mem_of_getElem? hrow)
                      omega
                    rw [sizeLine_eq]; omega
                  · rw [if_pos w1, ones_snoc]
                    exact upd_same
                · rw [if_neg w1, Nat.add_zero]
                  exact ⟨sm6.trans sm7, sm7 _ _ on6⟩
              · rintro H6 ⟨sm6, on6⟩
                rw [paired_len pra] at on6
                refine ⟨Nat.zero_le _, fun e he => ⟨_, _, _, rfl, rfl, kept1 he on6, upd_same, _, rfl, ?_⟩⟩
                have sm7 := same_new (o := .lst []) (sm5.trans sm6) he
                refine ite2 (fun w1 => ?_) (fun w1 => ?_)
                · -- more.append(row + (other,))
                  have ht : extT row o = true := by unfold extT; rw [x]; exact w1
                  obtain ⟨mv4, hmv4, pmv4⟩ := ls4
                  refine ⟨_, rfl, .inl ⟨rfl, _, SqL.of (sm7 _ _ hmv4)⟩, ?_⟩
                  refine ⟨_, rfl, _, rfl, (by show 1 ≤ sizeLine; decide), fun t1 ht1 => ?_⟩
                  have sm8 := same_new (o := .tup [z]) sm7 ht1
                  have mlen : mv4.length < sizeLine := by
                    rw [paired_len pmv4, List.length_append, List.length_map, sizeLine_eq]
                    have h1 := List.length_filter_le (extT row) ((diagsL n).take j)
                    rw [List.length_take] at h1
                    omega
                  have put : ∀ H9 r, Same H4 H9 → Ct H9 r (row ++ [o]) → ∃ l xs y_1, V.ref m = .ref l ∧ [r] = [y_1] ∧ H9 l = some (.lst xs) ∧ xs.length < sizeLine ∧ ∃ s5, [some (V.int n), some (V.ref q), s2, some (V.ref m), some (V.ref ra), some z, none] = [some (V.int n), some (V.ref q), s2, some (V.ref m), some (V.ref ra), s5, none] ∧ But m H3 (upd H9 l (.lst (xs ++ [y_1]))) ∧
                      LsOf Ct (upd H9 l (.lst (xs ++ [y_1]))) m (((allL n i).take t).flatMap (extR n) ++ (((diagsL n).take (j + 1)).filter (extT row)).map fun o => row ++ [o]) := fun H9 r sm9 hr => by
                    refine ⟨m, mv4, r, rfl, rfl, sm9 _ _ hmv4, mlen, _, rfl, (bt4.tr (But.of sm9)).put, ?_⟩
                    rw [hfs, if_pos ht, List.map_append, ← List.append_assoc]
                    exact LsOf.snoc Ct.mono (sm9 _ _ hmv4) (pair_mono Ct.mono (same_ts sm9) pmv4) hr
                  refine ⟨ra, t1, rvs', [z], rfl, rfl, SqT.of (sm8 _ _ hra), SqT.of upd_same, ?_, fun e0 => ?_, fun _ e0 => absurd e0 (by intro z; cases z), fun e0 _ p9 hp9 => ?_⟩
                  · have h1 : row.length = rvs'.length := (paired_len pra).symm
                    have h5 : row.length ≤ 8 := rowLen hn7 hi4 (List.mem_of_getElem? hrow)
                    rw [sizeLine_eq]
                    show rvs'.length + 1 ≤ 16777216
                    omega
                  · subst e0
                    have er : row = [] := by cases pra; rfl
                    exact put _ _ sm8 ⟨t1, [z], rfl, upd_same, by rw [er]; exact paired_one (Pr.mono _ _ _ _ (same_ts sm8) hO4)⟩
                  · have sm9 := same_new (o := .tup (rvs' ++ [z])) sm8 hp9
                    exact put _ _ sm9 ⟨p9, _, rfl, upd_same, paired_app (pair_mono Pr.mono (same_ts sm9) pra) (paired_one (Pr.mono _ _ _ _ (same_ts sm9) hO4))⟩
                · exact no (by unfold extT; rw [show decide (crN row o = 0) = false from Bool.eq_false_iff.mpr w1, Bool.and_false]) _ sm7
            · exact no (by unfold extT; rw [Bool.eq_false_iff.mpr x, Bool.false_and]) _ sm5
          · -- row == () or other > row[-1]
            refine ⟨_, rfl, Nat.zero_le _, fun e he => ?_⟩
            have sm5 := same_new (o := .tup []) (Same.refl H4) he
            refine ⟨dC row, .tuple [], (Ct.mono _ _ _ _ (same_ts sm5) hRow4).dp, .tup (SqT.of upd_same) .nil, plain_dC row, by simp [PyData.plain, PyData.plainAll], by have := depth_dC row; omega, _, rfl, ?_⟩
            rw [eqv_dC_nil]
            refine ite2 (fun x => ?_) (fun x => ?_)
            · have k' := k _ sm5
              rw [x, Bool.true_or] at k'
              exact k'
            · rcases snoc_or row with e0 | ⟨r0, x0, e0⟩
              · exact absurd (decide_eq_true e0) x
              · subst e0
                obtain ⟨xs0, xv, rfl, p0, hx0⟩ := paired_snoc pra
                refine ⟨_, rfl, _, rfl, _, rfl, ra, xs0 ++ [xv], _, xv, rfl, rfl, SqT.of (sm5 _ _ hra), atI_last xs0 xv, o, x0, Pr.mono _ _ _ _ (same_ts sm5) hO4, Pr.mono _ _ _ _ (same_ts sm5) hx0, _, rfl, ?_⟩
                have k' := k _ sm5
                rw [Bool.eq_false_iff.mpr x, Bool.false_or, lastP_snoc] at k'
                exact k'
        · rintro σ H4 ⟨s5, rfl, bt4, ls4⟩
          rw [paired_len pdvs, List.take_length] at ls4
          refine ⟨_, _, _, rfl, bt.tr ((But.of sm3).tr bt4), ?_⟩
          rw [take_succ' hrow, List.flatMap_append, List.flatMap_singleton]
          exact ls4
      · rintro σ H2 ⟨s2, s4, s5, rfl, bt, ls2⟩
        rw [paired_len prvs, List.take_length] at ls2
        have ls2' : LsOf Ct H2 m (allL n (i + 1)) := ls2
        obtain ⟨mv, hmv, pmv⟩ := ls2'
        -- found = list(more)
        refine ⟨_, rfl, m, mv, rfl, .inl (SqL.of hmv), fun l hl => ⟨l, _, _, _, _, rfl, ?_, ?_, ?_⟩⟩
        · exact same_new (But.same (same_new (o := .lst []) sm1 hm) hmH bt) hl
        · exact (But.same (same_new (o := .lst []) sm1 hm) hmH bt).free hl
        · exact ⟨mv, upd_same, pair_mono Ct.mono (ts_new hl) pmv⟩
    · rintro σ H1 ⟨q, s2, s3, s4, s5, rfl, sm1, hqn, ls1⟩
      have en : ((n : Int) - 3).toNat = n - 3 := by omega
      rw [en, (fact_all hp).1] at ls1
      obtain ⟨vs, hvs, pvs⟩ := ls1
      refine ⟨_, rfl, q, vs, cuts n, rfl, hvs, pvs, ?_, ?_, ?_, fun p2 ys hp2 hys => ?_⟩
      · exact PySem.W.AllAlike.of alike_dC
      · refine .inl fun d hd => ?_
        obtain ⟨c, hc, rfl⟩ := List.mem_map.mp hd
        obtain ⟨i, hi⟩ := List.mem_iff_getElem?.mp hc
        have hil : i < sizeN n := by
          rw [← (fact_sizes hp).1]
          exact (List.getElem?_eq_some_iff.mp hi).1
        have e1 := cutN_get hp hil
        rw [hi] at e1
        have e2 : c = cutN n i := Option.some.inj e1
        have hl := (fact_nb hp hil).2.1
        rw [← e2] at hl
        cases c with
        | nil =>
          simp only [List.length_nil] at hl
          omega
        | cons x r => exact ⟨dP x, r.map dP, rfl⟩
      · intro b _
        have := depth_dC b
        omega
      · rw [fact_sort hp] at hys
        exact Z _ p2 (same_new sm1 hp2) (sm1.free hp2) ⟨ys, upd_same, pair_mono Ct.mono (ts_new hp2) hys⟩
end
end Fs
/-! Flipsheets, the law's defs 4: _law_flipped_so. -/
namespace Fs
open PySem L2 PySem.Spec PyProof.Rows
section
variable
  {P : Program}
  {w : World} {K : PySem.W.Frag} {mg : Str → Option Value} {base : Heap}
abbrev sLFlip : Stmt := top 30
def spLFlip : Sp := fun vs H Q _ => ∃ (n : Nat) (v u : V) (c : List P2) (d : P2) (r : List P2), vs = [.int n, v, u] ∧ n ≤ 7 ∧ Ct H v c ∧ Pr H u d ∧ c.length ≤ 100 ∧ flipL n c d = some r ∧ ∀ H' v', Same H H' → Ct H' v' r → Q v' H'
theorem scLFlip : FnScope ["_law_many_so", "_law_cutting_so", "_law_one", "_law_other", "_law_left", "_law_far"] ["_law_many_so", "_law_cutting_so", "_law_one"] (defScope sLFlip) := ⟨rfl, rfl, rfl, by decide +kernel, rfl, by decide +kernel, by decide +kernel⟩
theorem drop_find {α : Type} {f : α → Bool} {l : List α} {j : Nat} {x : α} (h : l[j]? = some x) : (l.drop j).find? f = if f x = true then some x else (l.drop (j + 1)).find? f := by
  have hj := (List.getElem?_eq_some_iff.mp h).1
  rw [List.drop_eq_getElem_cons hj, List.find?_cons]
  have e : l[j] = x := (List.getElem?_eq_some_iff.mp h).2
  rw [e]
  cases f x <;> rfl
theorem ok_lflip {f : Addr} {fd : FuncData} (B : Blt mg) (GD : Has P w K mg base CX0 1 "_law_diagonals" ["_law_many_so"] spLDiag) (GC : Has P w K mg base CX0 1 "_law_cross_so" ["_law_one", "_law_other"] spLCross)
    (D : Df K mg "_law_flipped_so" sLFlip f fd) : Has P w K mg base CX0 2 "_law_flipped_so" ["_law_many_so", "_law_cutting_so", "_law_one"] spLFlip := by
  refine has_of D (D.fn.ok scLFlip (fun vs H Q E h => ?_) (fun cdv A outer s H vs Q E hr h => ?_)) (D.fn.binds fun _ _ _ _ _ _ us hl => match us, hl with | [_, _, _], _ => rfl)
  · obtain ⟨n, v, u, c, d, r, rfl, _⟩ := h
    rfl
  · obtain ⟨n, v, u, c, d, r, rfl, hn7, hc, hd, hlen, hfl, Z⟩ := h
    have hu := hr.units
    refine ⟨_, pss_cons (ps_setLc (i := 4) (own := [("_law_other", 3)]) (g := gName 3) rfl scLFlip.nd rfl rfl (sw_true rfl rfl rfl (by decide +kernel)) (pi_tup (pv 1)) (blkOk_by (N := ["_law_many_so", "_law_cutting_so", "_law_one", "_law_other", "_law_left", "_law_far"]) (sc := defScope sLFlip) (by decide +kernel))
        (fun _ _ _ _ _ => pg_name (i := 3) scLFlip.nd rfl (Or.inl rfl)) (fun _ _ _ _ _ => pts_one (pt_cmpR (op_neP hu) (pv 3) (pv 2) (nomark _))) (fun _ _ _ _ _ => pv 3))
      (pss_cons (ps_for PassesOwn.never rfl (pi_list (pe_has GD hr rfl pass0 (pa_cons (pv 0) pa_nil))) (pg_name (i := 3) scLFlip.nd rfl (.inr rfl))
        (pss_one (ps_if (PW.pt (pw_and (pt_cmpR (op_neP hu) (pv 3) (pv 2) (nomark _)) (pw_and (pt_cmpR (op_notInPL hu) (pv 3) (pv 4) rfl)
            (pw_and1 (pt_cmpR (op_onesEq hu) (pe_lc (own := [("_law_far", 5)]) (g := gName 5) rfl scLFlip.nd (pi_list (pv 4)) (blkOk_by (N := ["_law_many_so", "_law_cutting_so", "_law_one", "_law_other", "_law_left", "_law_far"]) (sc := defScope sLFlip) (by decide +kernel))
                  (fun _ _ _ _ _ => pg_name (i := 5) scLFlip.nd rfl (Or.inl rfl)) (fun _ _ _ _ _ => pts_one (pt_val (pe_has GC hr rfl pass0 (pa_cons (pv 5) (pa_cons (pv 3) pa_nil))))) (fun _ _ _ _ _ => pe_int)) (pe_lst pa_nil) (nomark _))))))
          (pss_one (ps_ret (pe_callTy call_tuplePr (by rfl) B.tuple PyProof.Rows.boot_tuple (pa_cons (pe_callB (call_sortedPr hu) (by rfl) B.sorted PyProof.Rows.boot_sorted (pa_cons
            (pe_op op_cat (pv 4) (pe_lst (pa_cons (pv 3) pa_nil))) pa_nil)) pa_nil)))) pss_nil)))
      (pss_one (ps_ret pe_non))), ?_⟩
    obtain ⟨cv, cvs, rfl, hcv, pcv⟩ := id hc
    refine ⟨_, rfl, cv, rfl, ⟨_, SqT.of hcv⟩, fun D hD => lc_tup (K := K) (a := cv) (xs := cvs) (fun i H' => Same H H' ∧ LsOf Pr H' D ((c.take i).filter fun q => decide (q ≠ d))) ⟨same_new (Same.refl H) hD, LsOf.new⟩ (fun i H' _ s => SqT.of (s.1 _ _ hcv)) ?_ ?_⟩
    · rintro j y H3 hj ⟨sm3, ls3⟩
      obtain ⟨q, hq, hPq⟩ := L2.paired_get pcv hj
      have hPq3 := Pr.mono _ _ _ _ (same_ts sm3) hPq
      refine ⟨rfl, _, rfl, _, rfl, q, d, hPq3, Pr.mono _ _ _ _ (same_ts sm3) hd, _, rfl, ?_⟩
      have hfs := filter_snoc (f := fun q => decide (q ≠ d)) hq
      refine ite2 (fun w1 => ?_) (fun w1 => ?_)
      · obtain ⟨ws, hws, pws⟩ := ls3
        refine ⟨_, rfl, _, hws, ?_, same_put sm3 hD, ?_⟩
        · rw [paired_len pws]
          refine Nat.lt_of_le_of_lt (List.length_filter_le _ _) ?_
          rw [List.length_take, sizeLine_eq]
          omega
        · rw [hfs, if_pos w1]
          exact LsOf.snoc Pr.mono hws pws hPq3
      · refine ⟨sm3, ?_⟩
        rw [hfs, if_neg w1, List.append_nil]
        exact ls3
    · rintro H3 ⟨sm3, ls3⟩
      rw [paired_len pcv, List.take_length] at ls3
      have ls3' : LsOf Pr H3 D (keptP c d) := ls3
      have hkl : (keptP c d).length ≤ 100 := Nat.le_trans (List.length_filter_le _ _) hlen
      refine ⟨_, rfl, n, rfl, hn7, fun H4 pd sm4 hpd ⟨dvs, hdvs, pdvs⟩ => ?_⟩
      have ls4 := ls3'.same Pr.mono sm4
      have sm34 := sm3.trans sm4
      refine ⟨pd, rfl, ⟨_, SqL.of hdvs⟩, for_list (K := K) (a := pd) (xs := dvs) (fun j σ H' => ∃ s3, σ = [some (.int n), some (.ref cv), some u, s3, some (.ref D), none] ∧ Same H4 H' ∧ (diagsL n).find? (candL c d) = ((diagsL n).drop j).find? (candL c d))
        ⟨none, rfl, Same.refl H4, rfl⟩ (fun j σ H' _ ⟨_, _, s, _⟩ => SqL.of (s _ _ hdvs)) ?_ ?_⟩
      · rintro j z σ H5 hj ⟨s3, rfl, sm5, hfind⟩
        obtain ⟨o, ho, hO⟩ := L2.paired_get pdvs hj
        have hdf := drop_find (f := candL c d) ho
        have ls5 := ls4.same Pr.mono sm5
        obtain ⟨lvs, hlvs, plvs⟩ := id ls5
        have hO5 := Pr.mono _ _ _ _ (same_ts sm5) hO
        have hd5 := Pr.mono _ _ _ _ (same_ts (sm34.trans sm5)) hd
        have no : candL c d o = false → ∀ H6, Same H5 H6 → ∃ s3, [some (V.int n), some (V.ref cv), some u, some z, some (V.ref D), none] = [some (V.int n), some (V.ref cv), some u, s3, some (V.ref D), none] ∧ Same H4 H6 ∧ (diagsL n).find? (candL c d) = ((diagsL n).drop (j + 1)).find? (candL c d) := fun e H6 sm6 => by
          refine ⟨_, rfl, sm5.trans sm6, ?_⟩
          rw [hfind, hdf, if_neg (by rw [e]; exact Bool.false_ne_true)]
        refine ⟨_, rfl, _, rfl, o, d, hO5, hd5, _, rfl, ite2 (fun x => ?_) (fun x => ?_)⟩
        · refine ⟨_, rfl, _, rfl, o, D, keptP c d, hO5, rfl, ls5, _, rfl, ite2 (fun y => ?_) (fun y => ?_)⟩
          · refine ⟨_, rfl, D, rfl, ⟨_, SqL.of hlvs⟩, fun D2 hD2 => lc_list (K := K) (a := D) (xs := lvs) (fun k H' => Same H5 H' ∧ Ones H' D2 (cntB (fun x => crossL x o) (keptP c d) k)) ⟨same_new (Same.refl H5) hD2, upd_same⟩ (fun k H' _ s => SqL.of (s.1 _ _ hlvs)) ?_ ?_⟩
            · rintro k y6 H6 hk ⟨sm6, on6⟩
              obtain ⟨pq, hpq, hPr⟩ := L2.paired_get plvs hk
              refine ⟨rfl, _, rfl, _, rfl, y6, z, pq, o, rfl, Pr.mono _ _ _ _ (same_ts sm6) hPr, Pr.mono _ _ _ _ (same_ts sm6) hO5, fun H7 sm7 => ⟨_, rfl, ?_⟩⟩
              have hcl := cntB_le (bad := fun x => crossL x o) (l := keptP c d) (i := k)
              rw [cntB_succ hpq]
              refine ite2 (fun w1 => ?_) (fun w1 => ?_)
              · refine ⟨_, sm7 _ _ on6, ?_, same_put (sm6.trans sm7) hD2, ?_⟩
                · rw [List.length_replicate, sizeLine_eq]
                  omega
                · rw [if_pos w1, ones_snoc]
                  exact upd_same
              · rw [if_neg w1, Nat.add_zero]
                exact ⟨sm6.trans sm7, sm7 _ _ on6⟩
            · rintro H6 ⟨sm6, on6⟩
              rw [paired_len plvs] at on6
              refine ⟨Nat.zero_le _, fun e he => ⟨_, _, _, rfl, rfl, kept1 he on6, upd_same, _, rfl, ?_⟩⟩
              have sm7 := same_new (o := .lst []) sm6 he
              refine ite2 (fun w1 => ?_) (fun w1 => ?_)
              · have hcand : candL c d o = true := by
                  unfold candL
                  rw [x, y]
                  exact w1
                have hres : r = sortP (keptP c d ++ [o]) := by
                  unfold flipL at hfl
                  rw [hfind, hdf, if_pos hcand] at hfl
                  exact (Option.some.inj hfl).symm
                have hlv7 := sm7 _ _ hlvs
                refine ⟨_, rfl, _, rfl, (by show 1 ≤ sizeLine; decide), fun l hl => ?_⟩
                have sm8 := same_new (o := .lst [z]) sm7 hl
                refine ⟨D, l, lvs, [z], rfl, rfl, kept1 hl hlv7, upd_same, (by rw [paired_len plvs, sizeLine_eq]; show (keptP c d).length + 1 ≤ _; omega), fun p hp => ?_⟩
                have sm9 := same_new (o := .lst (lvs ++ [z])) sm8 hp
                refine ⟨p, _, rfl, ⟨_, upd_same, paired_app (pair_mono Pr.mono (same_ts sm9) plvs) (paired_one (Pr.mono _ _ _ _ (same_ts sm9) hO5))⟩, fun p' hp' H10 sm10 ls10 => ?_⟩
                refine ⟨p', _, rfl, ls10, fun H11 r' sm11 hr11 => ?_⟩
                rw [← hres] at hr11
                exact Z H11 r' (sm34.trans (sm5.trans (sm9.trans (sm10.trans sm11)))) hr11
              · exact no (by unfold candL; rw [show decide (crN (keptP c d) o = 0) = false from Bool.eq_false_iff.mpr w1, Bool.and_false, Bool.and_false]) _ sm7
          · exact no (by unfold candL; rw [show decide (o ∉ keptP c d) = false from Bool.eq_false_iff.mpr y, Bool.false_and, Bool.and_false]) _ (Same.refl H5)
        · exact no (by unfold candL; rw [show decide (o ≠ d) = false from Bool.eq_false_iff.mpr x, Bool.false_and]) _ (Same.refl H5)
      · rintro σ H5 ⟨s3, rfl, sm5, hfind⟩
        rw [paired_len pdvs, List.drop_length] at hfind
        unfold flipL at hfl
        rw [hfind] at hfl
        cases hfl
end
end Fs
/-! Flipsheets, the law's defs 5: _law_steps. -/
namespace Fs
open PySem L2 PySem.Spec PyProof.Rows
theorem plainAll_dC : ∀ l : List (List P2), PyData.plainAll (l.map dC) = true
  | [] => by simp [PyData.plainAll]
  | c :: l => by rw [List.map_cons, PyData.plainAll, plain_dC, plainAll_dC l]; rfl
theorem depthAll_dC : ∀ l : List (List P2), PyData.depthAll (l.map dC) ≤ 2
  | [] => by (simp [PyData.depthAll])
  | c :: l => by
    have h1 := depth_dC c
    have h2 := depthAll_dC l
    rw [(List.map_cons), PyData.depthAll]
    omega
theorem op_neLs {X : Cx} (hu : X.A.units + 64 < cLine) : OpR X (compareOp .NotEq) (fun x y H Q => ∃ a b l, x = .ref a ∧ y = .ref b ∧ LsOf Ct H a l ∧ H b = some (.lst []) ∧ Q (.bl (!l.isEmpty)) H) := by
  intro pns s σ H x y v u Q I rx ry h
  obtain ⟨a, b, l, rfl, rfl, hl, hb, q⟩ := h
  refine op_neQ hu pns s σ H _ _ v u Q I rx ry ⟨.list (l.map dC), .list [], hl.dp fun _ _ r => Ct.dp r, .lst (SqL.of hb) .nil, ?_, ?_, ?_, ?_⟩
  · simp only [PyData.plain]; exact plainAll_dC l
  · simp [PyData.plain, PyData.plainAll]
  · have := depthAll_dC l
    simp only [PyData.depth]; omega
  · have e : PyData.eqv (.list (l.map dC)) (.list []) = l.isEmpty := by
      cases l with
      | nil => simp [PyData.eqv, PyData.eqvAll]
      | cons c l => simp [PyData.eqv, PyData.eqvAll]
    rw [e]
    exact q
theorem cutV_tail (x : V) (xs : List V) : cutV (x :: xs) (some 1) none = xs := by
  unfold cutV
  have e1 : HT.sIx (x :: xs).length 0 (some 1) = 1 := by
    have z := HT.sIx_nat (x :: xs).length 0 1
    have e : ((1 : Nat) : Int) = (1 : Int) := rfl
    rw [e] at z
    rw [z, List.length_cons]
    omega
  have e2 : HT.sIx (x :: xs).length (x :: xs).length none = (x :: xs).length := rfl
  rw [e1, e2]
  show (xs).take ((x :: xs).length - 1) = xs
  rw [List.length_cons, Nat.add_sub_cancel]
  exact List.take_length
section
variable
  {P : Program}
  {w : World} {K : PySem.W.Frag} {mg : Str → Option Value} {base : Heap}
abbrev sLSteps : Stmt := top 31
theorem scLSteps : FnScope ["_law_many_so", "_law_goal", "_law_found", "_law_line", "_law_here", "_law_one", "_law_far"] ["_law_many_so", "_law_goal"] (defScope sLSteps) := ⟨rfl, rfl, rfl, by decide +kernel, rfl, by decide +kernel, by decide +kernel⟩
/-- the law's search in the heap: the dict at d, at p what of the line is left, from the place a on -/
structure SeekL (P : Program) (w : World) (n : Nat) (H : Hp) (d p : Addr) (a : Nat) (H' : Hp) (f : List NN) : Prop where
  sm : Same H H'
  nd : ND P w H' d (kvsOf n f)
  ln : LsOf Ct H' p ((lineOf n f).drop a)
  pn : H p = none
theorem SeekL.same {n a : Nat} {H : Hp} {d p : Addr} {H' H2 : Hp} {f : List NN} (s : SeekL P w n H d p a H' f) (k : Same H' H2) : SeekL P w n H d p a H2 f := ⟨s.sm.trans k, s.nd.same k, s.ln.same Ct.mono k, s.pn⟩
theorem ok_lsteps {f : Addr} {fd : FuncData} (GF : Has P w K mg base CX0 2 "_law_flipped_so" ["_law_many_so", "_law_cutting_so", "_law_one"] spLFlip) (D : Df K mg "_law_steps" sLSteps f fd) : Has P w K mg base CX0 3 "_law_steps" ["_law_many_so", "_law_goal"] (spNear P w) := by
  refine has_of D (D.fn.ok scLSteps (fun vs H Q E h => ?_) (fun cdv A outer s H vs Q E hr h => ?_)) (D.fn.binds fun _ _ _ _ _ _ us hl => match us, hl with | [_, _], _ => rfl)
  · obtain ⟨n, g, v, rfl, _⟩ := h
    rfl
  · obtain ⟨n, g, v, rfl, hp, hg, hc, Z⟩ := h
    have hu := hr.units
    refine ⟨_, pss_cons (ps_par (i := 2) (j := 3) (by rfl) scLSteps.nd rfl rfl (by decide) rfl rfl (pa_cons pe_ndnew (pa_cons (pe_lst (pa_cons (pv 1) pa_nil)) pa_nil)) (by rfl))
      (pss_cons (ps_ndput hu (pv 2) (pv 1) pe_int rfl)
      (pss_cons (ps_while PassesOwn.never (pt_cmpR (op_neLs hu) (pv 3) (pe_lst pa_nil) (nomark _))
        (pss_cons (ps_par (i := 4) (j := 3) (by rfl) scLSteps.nd rfl rfl (by decide) rfl rfl (pa_cons (pe_ix ix_list (pv 3) pe_int (fun _ _ => rfl)) (pa_cons (pe_slice sl_list (pv 3) (po_some pe_int) po_none) pa_nil)) (by rfl))
        (pss_one (ps_for PassesOwn.never rfl (pi_tup (pv 4)) (pg_name (i := 5) scLSteps.nd rfl (.inl rfl))
          (pss_cons (ps_set (i := 6) scLSteps.nd rfl (.inl rfl) (pe_has GF hr rfl pass0 (pa_cons (pv 0) (pa_cons (pv 4) (pa_cons (pv 5) pa_nil)))))
          (pss_one (ps_if (pt_cmp (pc_ndnotin hu (pv 6) (pv 2)) rfl)
            (pss_cons (ps_ndput hu (pv 2) (pv 6) (pe_op op_add (pe_ndget hu (pv 2) (pv 4) (fun _ _ => rfl)) pe_int) rfl)
            (pss_one (ps_expr (pe_bm PySem.F.plainAttrs_list PySem.F.slot_list_append PySem.F.type_list_append mt_append (pv 3) (pa_cons (pv 6) pa_nil))))) pss_nil)))))))
      (pss_one (ps_ret (pv 2))))), ?_⟩
    refine fun d φ hd nd0 => ?_
    have sm0 := same_new (o := .ext φ) (Same.refl H) hd
    refine ⟨_, rfl, (by show 1 ≤ sizeLine; decide), fun p hpn => ?_⟩
    have sm1 := same_new (o := .lst [v]) sm0 hpn
    have hpH : H p = none := sm0.free hpn
    have hdp : d ≠ p := fun z => by rw [← z, upd_same] at hpn; cases hpn
    refine ⟨_, _, rfl, ?_⟩
    have nd1 : ND P w (upd (upd H d (.ext φ)) p (.lst [v])) d [] := nd0.same (same_new (Same.refl _) hpn)
    refine ⟨_, rfl, _, rfl, d, [], cutN n g, 0, rfl, rfl, nd1, Ct.mono _ _ _ _ (same_ts sm1) hc, rfl, by show 0 < 1000; decide, fun φ2 nd2 => ?_⟩
    obtain ⟨φ1, hφ1⟩ := nd1.ext
    have sm2 : Same H (upd (upd (upd H d (.ext φ)) p (.lst [v])) d (.ext φ2)) := same_put sm1 hd
    have hp2 : upd (upd (upd H d (.ext φ)) p (.lst [v])) d (.ext φ2) p = some (.lst [v]) := by rw [upd_ne (Ne.symm hdp), upd_same]
    have st0 : SeekL P w n H d p 0 (upd (upd (upd H d (.ext φ)) p (.lst [v])) d (.ext φ2)) [(g, 0)] := ⟨sm2, nd2, ⟨[v], hp2, paired_one (Ct.mono _ _ _ _ (same_ts sm2) hc)⟩, hpH⟩
    have sn0 : SeekN n g 0 [(g, 0)] := ⟨⟨fun q hq => by rw [List.mem_singleton.mp hq]; exact hg, by simp⟩, Nat.zero_le _, rfl⟩
    -- the measure: how much of the search is left, by the line's length and the dict's
    refine ⟨fun m σ H' => ∃ (a : Nat) (fl : List NN) (p : Addr) (s4 s5 s6 : Option V), m = sizeN n + 1 - a ∧ σ = [some (.int n), some v, some (.ref d), some (.ref p), s4, s5, s6] ∧ SeekL P w n H d p a H' fl ∧ SeekN n g a fl, ⟨_, 0, _, p, none, none, none, rfl, rfl, st0, sn0⟩, ?_⟩
    rintro m σ H1 ⟨a, fl, p, s4, s5, s6, rfl, rfl, st, sn⟩
    have hfl := sn.good.len
    have hsz := sizeN_le n
    obtain ⟨ws, hws, pws⟩ := id st.ln
    refine ⟨_, rfl, Nat.zero_le _, fun e he => ?_⟩
    have sme := same_new (o := .lst []) (Same.refl H1) he
    refine ⟨p, e, _, rfl, rfl, st.ln.same Ct.mono sme, upd_same, _, rfl, ?_⟩
    have st1 := st.same sme
    by_cases ha : a < fl.length
    · obtain ⟨⟨i, dd⟩, hq⟩ : ∃ q, fl[a]? = some q := ⟨_, List.getElem?_eq_getElem ha⟩
      have hi : i < sizeN n := sn.good.lt _ (List.mem_of_getElem? hq)
      have hdr : (lineOf n fl).drop a = cutN n i :: (lineOf n fl).drop (a + 1) := by
        have hl : a < (lineOf n fl).length := by unfold lineOf; rw [List.length_map]; exact ha
        rw [List.drop_eq_getElem_cons hl]
        congr 1
        have e1 : (lineOf n fl)[a]? = some (cutN n i) := by unfold lineOf; rw [List.getElem?_map, hq]; rfl
        exact (List.getElem?_eq_some_iff.mp e1).2
      rw [hdr]
      refine iteT ?_
      rw [hdr] at pws
      obtain ⟨wv, ws', rfl, hwc, pws'⟩ : ∃ wv ws', ws = wv :: ws' ∧ Ct H1 wv (cutN n i) ∧ Paired (Ct H1) ws' ((lineOf n fl).drop (a + 1)) := by
        cases pws with
        | cons r t => exact ⟨_, _, rfl, r, t⟩
      have hws2 := sme _ _ hws
      have hwc2 := Ct.mono _ _ _ _ (same_ts sme) hwc
      refine ⟨fun σ' H' => ∃ (fl' : List NN) (p' : Addr) (s4 s5 s6 : Option V), σ' = [some (.int n), some v, some (.ref d), some (.ref p'), s4, s5, s6] ∧ SeekL P w n H d p' (a + 1) H' fl' ∧ SeekN n g (a + 1) fl',
        fun σ' H' ⟨fl', p', s4, s5, s6, e1, e2, e3⟩ => ⟨sizeN n + 1 - (a + 1), by omega, a + 1, fl', p', s4, s5, s6, rfl, e1, e2, e3⟩, ?_⟩
      -- here, line = line[0], line[1:]
      refine ⟨_, rfl, p, _, _, wv, rfl, rfl, SqL.of hws2, at_of (j := 0) rfl rfl, _, rfl, ?_⟩
      refine ⟨_, rfl, p, _, rfl, SqL.of hws2, fun p2 hp2 => ?_⟩
      rw [cutV_tail]
      refine ⟨_, _, rfl, ?_⟩
      have sm3 := same_new (o := .lst ws') sme hp2
      have smH := st.sm.trans sm3
      have hp2H : H p2 = none := (st.sm.trans sme).free hp2
      have st2 : SeekL P w n H d p2 (a + 1) (upd (upd H1 e (.lst [])) p2 (.lst ws')) fl := ⟨smH, st.nd.same sm3, ⟨ws', upd_same, pair_mono Ct.mono (same_ts sm3) pws'⟩, hp2H⟩
      have hwc3 := Ct.mono _ _ _ _ (same_ts sm3) hwc
      obtain ⟨wa, cvs, rfl, hca, pca⟩ := id hwc3
      have hnb := fact_nb hp hi
      have hlen7 : (cutN n i).length ≤ 4 := by
        have := poly_le hp
        omega
      obtain ⟨φ3, hφ3⟩ := st2.nd.ext
      have hdp2 : d ≠ p2 := fun z => by
        rw [z, upd_same] at hφ3
        cases hφ3
      generalize upd (upd H1 e (.lst [])) p2 (.lst ws') = H2 at *
      refine ⟨_, rfl, wa, rfl, ⟨_, SqT.of hca⟩, for_tup (K := K) (a := wa) (xs := cvs)
          (fun j σ H' => ∃ s5 s6, σ = [some (.int n), some v, some (.ref d), some (.ref p2), some (.ref wa), s5, s6] ∧ TSm H2 H' ∧ SeekL P w n H d p2 (a + 1) H' (stepN ((nbN n i).take j) dd fl) ∧ GoodF n (stepN ((nbN n i).take j) dd fl) ∧ ∃ m, stepN ((nbN n i).take j) dd fl = fl ++ m)
          ⟨s5, s6, rfl, TSm.rfl' _, st2, sn.good, [], (List.append_nil _).symm⟩ (fun j σ H' _ ⟨_, _, _, ts, _⟩ => SqT.of (ts _ _ hca)) ?_ ?_⟩
      · rintro j y σ H3 hj ⟨s5, s6, rfl, ts, st3, gd3, m, em⟩
        obtain ⟨dg, hdg, hPd⟩ := L2.paired_get pca hj
        have hPd3 := Pr.mono _ _ _ _ ts hPd
        have hC3 := Ct.mono _ _ _ _ ts hwc3
        have hjl : j < (cutN n i).length := (List.getElem?_eq_some_iff.mp hdg).1
        have edg : (cutN n i).getD j (0, 0) = dg := by rw [List.getD_eq_getElem?_getD, hdg]; rfl
        have ffl := fact_flipL hp hi hjl
        rw [edg] at ffl
        obtain ⟨nj, hnj⟩ : ∃ nj, (nbN n i)[j]? = some nj := ⟨_, List.getElem?_eq_getElem (by omega)⟩
        have enj : (nbN n i).getD j 0 = nj := by rw [List.getD_eq_getElem?_getD, hnj]; rfl
        rw [enj] at ffl
        have hnjl : nj < sizeN n := hnb.2.2 nj (List.mem_of_getElem? hnj)
        generalize hF : stepN ((nbN n i).take j) dd fl = F at *
        have hstep : stepN ((nbN n i).take (j + 1)) dd fl = seeN dd F nj := by rw [stepN_succ hnj, hF]
        have haF : a + 1 ≤ (lineOf n F).length := by
          unfold lineOf
          rw [List.length_map, em, List.length_append]
          omega
        refine ⟨_, rfl, _, rfl, _, rfl, n, _, y, cutN n i, dg, _, rfl, (poly_le hp).2, hC3, hPd3, by omega, ffl, fun H4 r sm4 hr4 => ?_⟩
        have st4 := st3.same sm4
        refine ⟨_, rfl, _, rfl, d, _, cutN n nj, rfl, st4.nd, hr4, _, rfl, ?_⟩
        have hlk := kvs_lookup hp hnjl gd3.lt
        have hFl := gd3.len
        cases hlj : F.lookup nj with
        | none =>
          rw [hlj] at hlk
          have hlk' : (kvsOf n F).lookup (cutN n nj) = none := hlk
          rw [hlk']
          refine iteT ?_
          have hsee : seeN dd F nj = F ++ [(nj, dd + 1)] := by unfold seeN; rw [hlj]; rfl
          have hdd : F.lookup i = some dd := by rw [em]; exact lookup_app (lookup_at sn.good.nd hq)
          have hki := kvs_lookup hp hi gd3.lt
          rw [hdd] at hki
          refine ⟨_, rfl, _, rfl, d, _, cutN n i, (dd : Int), rfl, st4.nd, Ct.mono _ _ _ _ (same_ts sm4) hC3, hki, _, _, rfl, rfl, _, rfl, _, rfl, d, _, cutN n nj, (dd : Int) + 1, rfl, rfl, st4.nd, hr4, hlk', ?_, fun φ nd5 => ?_⟩
          · unfold kvsOf
            rw [List.length_map]
            omega
          · obtain ⟨φ0, hφ0⟩ := st4.nd.ext
            have ts5 : TSm H4 (upd H4 d (.ext φ)) := ts_ext hφ0
            obtain ⟨us4, hus4, pus4⟩ := st4.ln
            have hp5 : upd H4 d (.ext φ) p2 = some (.lst us4) := by rw [upd_ne (Ne.symm hdp2)]; exact hus4
            have pus5 := pair_mono Ct.mono ts5 pus4
            have hr5 := Ct.mono _ _ _ _ ts5 hr4
            refine ⟨_, rfl, .inl ⟨rfl, _, SqL.of hp5⟩, _, rfl, p2, us4, _, rfl, rfl, hp5, ?_, ?_⟩
            · rw [paired_len pus5, sizeLine_eq, List.length_drop]
              unfold lineOf
              rw [List.length_map]
              omega
            · refine ⟨_, _, rfl, ?_, ⟨?_, ?_, ?_, hp2H⟩, ?_, ?_⟩
              · exact ts.tr ((same_ts sm4).tr (ts5.tr (ts_lst hp5)))
              · exact same_put (same_put st4.sm hd) hp2H
              · rw [hstep, hsee]
                have e1 : kvsOf n (F ++ [(nj, dd + 1)]) = kvsOf n F ++ [(cutN n nj, (dd : Int) + 1)] := by unfold kvsOf; rw [List.map_append]; rfl
                rw [e1]
                exact nd5.keep (ts_lst hp5) fun φ' e => by rw [upd_ne hdp2]; exact e
              · rw [hstep, hsee]
                have e1 : lineOf n (F ++ [(nj, dd + 1)]) = lineOf n F ++ [cutN n nj] := by unfold lineOf; rw [List.map_append]; rfl
                rw [e1, List.drop_append_of_le_length haF]
                exact LsOf.snoc Ct.mono hp5 pus5 hr5
              · rw [hstep]
                exact seeN_good gd3 hnjl
              · obtain ⟨m', em'⟩ := seeN_more dd nj F
                exact ⟨m ++ m', by rw [hstep, em', em, List.append_assoc]⟩
        | some x0 =>
          rw [hlj] at hlk
          have hlk' : (kvsOf n F).lookup (cutN n nj) = some (x0 : Int) := hlk
          rw [hlk']
          refine iteF ?_
          have hsee : seeN dd F nj = F := by unfold seeN; rw [hlj]; rfl
          refine ⟨_, _, rfl, ts.tr (same_ts sm4), ?_, ?_, ?_⟩
          · rw [hstep, hsee]; exact st4
          · rw [hstep, hsee]; exact gd3
          · rw [hstep, hsee]; exact ⟨m, em⟩
      · rintro σ H3 ⟨s5, s6, rfl, ts, st3, gd3, m, em⟩
        have hl2 : cvs.length = (nbN n i).length := by rw [paired_len pca]; exact hnb.1.symm
        rw [hl2, List.take_length] at st3 gd3 em
        refine ⟨_, p2, _, s5, s6, rfl, st3, gd3, ?_, ?_⟩
        · rw [em, List.length_append]
          omega
        · have hr := sn.run
          have ek : sizeN n + 1 - a = (sizeN n + 1 - (a + 1)) + 1 := by omega
          rw [ek] at hr
          have hb : bfsN n (sizeN n + 1 - (a + 1) + 1) a fl = bfsN n (sizeN n + 1 - (a + 1)) (a + 1) (stepN (nbN n i) dd fl) := by
            show (match fl[a]? with | none => fl | some (i, d) => bfsN n (sizeN n + 1 - (a + 1)) (a + 1) (stepN (nbN n i) d fl)) = _
            rw [hq]
          rw [← hb]
          exact hr
    · have hnil : (lineOf n fl).drop a = [] := List.drop_eq_nil_of_le (by unfold lineOf; rw [List.length_map]; omega)
      rw [hnil]
      refine iteF ?_
      have hfin : fl = found n g := by
        have hr := sn.run
        have ek : ∃ k, sizeN n + 1 - a = k + 1 := ⟨sizeN n - a, by have := sn.le; omega⟩
        obtain ⟨k, ek⟩ := ek
        rw [ek] at hr
        have hb : bfsN n (k + 1) a fl = fl := by
          show (match fl[a]? with | none => fl | some (i, d) => bfsN n k (a + 1) (stepN (nbN n i) d fl)) = _
          rw [(List.getElem?_eq_none (by omega))]
        rw [← hb]
        exact hr
      rw [hfin] at st1
      exact ⟨_, rfl, Z _ d st1.sm hd st1.nd⟩
end
end Fs
/-! Flipsheets, base 5: what the search found, the row of diagonals, told by index. -/
namespace Fs
open PySem L2 PySem.Spec PyProof.Rows
theorem stepN_good {n d : Nat} : ∀ {nb : List Nat} {f : List NN}, (∀ j ∈ nb, j < sizeN n) → GoodF n f → GoodF n (stepN nb d f)
  | [], _, _, g => g
  | j :: nb, f, h, g => by
    show GoodF n (stepN nb d (seeN d f j))
    exact stepN_good (fun x hx => h x (List.mem_cons_of_mem _ hx)) (seeN_good g (h j List.mem_cons_self))
theorem bfsN_good {n : Nat} (h : Poly n) : ∀ (k a : Nat) (f : List NN), GoodF n f → GoodF n (bfsN n k a f)
  | 0, _, _, g => g
  | k + 1, a, f, g => by
    show GoodF n (match f[a]? with | none => f | some (i, d) => bfsN n k (a + 1) (stepN (nbN n i) d f))
    cases e : f[a]? with
    | none => exact g
    | some q =>
      obtain ⟨i, d⟩ := q
      have hi := g.lt _ (List.mem_of_getElem? e)
      exact bfsN_good h k (a + 1) _ (stepN_good (fact_nb h hi).2.2 g)
theorem found_good {n g : Nat} (h : Poly n) (hg : g < sizeN n) : GoodF n (found n g) :=
  bfsN_good h _ _ _ ⟨fun q hq => by rw [List.mem_singleton.mp hq]; exact hg, by simp⟩
theorem found_lookup {n g i : Nat} (h : Poly n) (hg : g < sizeN n) (hi : i < sizeN n) : (kvsOf n (found n g)).lookup (cutN n i) = some (dt n g i : Int) := by
  rw [kvs_lookup h hi (found_good h hg).lt, (fact_found h hg).2 i hi]
  rfl
/-- the diagonals among the first j whose flip comes nearer -/
def gdN (n g i j : Nat) : List P2 := ((List.range j).filter fun k => decide (dt n g ((nbN n i).getD k 0) < dt n g i)).map fun k => (cutN n i).getD k (0, 0)
theorem gdN_succ (n g i j : Nat) : gdN n g i (j + 1) = gdN n g i j ++ (if decide (dt n g ((nbN n i).getD j 0) < dt n g i) = true then [(cutN n i).getD j (0, 0)] else []) := by
  unfold gdN
  rw [List.range_succ, List.filter_append, List.map_append]
  congr 1
  rw [List.filter_cons, List.filter_nil]
  by_cases e : decide (dt n g ((nbN n i).getD j 0) < dt n g i) = true
  · rw [if_pos e, if_pos e]
    rfl
  · rw [if_neg e, if_neg e]
    rfl
theorem gdN_all {n g i : Nat} (h : Poly n) (hi : i < sizeN n) : gdN n g i (cutN n i).length = diagsOf n i (goodN n g i) := by
  unfold gdN diagsOf goodN
  rw [(fact_nb h hi).1]
theorem gdN_len (n g i j : Nat) : (gdN n g i j).length ≤ j := by
  unfold gdN
  rw [List.length_map]
  exact Nat.le_trans (List.length_filter_le _ _) (by rw [List.length_range]; exact Nat.le_refl _)
/-- the first good place: its diagonal is the first and the least of the good ones -/
structure FirstGood (n g i k : Nat) : Prop where
  lt : k < (cutN n i).length
  nb : (nbN n i).getD k 0 < sizeN n
  near : dt n g ((nbN n i).getD k 0) < dt n g i
  fst : ∃ c, gdN n g i (cutN n i).length = (cutN n i).getD k (0, 0) :: c ∧ c.foldl (fun a y => if ltP y a then y else a) ((cutN n i).getD k (0, 0)) = (cutN n i).getD k (0, 0)
  row : ∀ f, rowN n g (f + 1) i = (cutN n i).getD k (0, 0) :: rowN n g f ((nbN n i).getD k 0)
theorem first_good {n g i : Nat} (h : Poly n) (hg : g < sizeN n) (hi : i < sizeN n) (ne : i ≠ g) : ∃ k, FirstGood n g i k := by
  obtain ⟨h1, _, h3⟩ := fact_good h hg hi
  obtain ⟨hne, hmin⟩ := h3 ne
  obtain ⟨k, ks, hk⟩ : ∃ k ks, goodN n g i = k :: ks := by
    cases e : goodN n g i with
    | nil => exact absurd e hne
    | cons k ks => exact ⟨k, ks, rfl⟩
  have hmem : k ∈ goodN n g i := by rw [hk]; exact List.mem_cons_self
  have hm2 : k ∈ List.range (nbN n i).length ∧ decide (dt n g ((nbN n i).getD k 0) < dt n g i) = true := List.mem_filter.mp hmem
  have hkl : k < (nbN n i).length := List.mem_range.mp hm2.1
  have hnb := fact_nb h hi
  refine ⟨k, ⟨by rw [← hnb.1]; exact hkl, ?_, of_decide_eq_true hm2.2, ?_, fun f => ?_⟩⟩
  · refine hnb.2.2 _ ?_
    rw [List.getD_eq_getElem?_getD, List.getElem?_eq_getElem hkl]
    exact List.getElem_mem hkl
  · rw [gdN_all h hi]
    rw [hk] at hmin ⊢
    exact ⟨diagsOf n i ks, rfl, hmin⟩
  · have h0 : ¬ dt n g i = 0 := fun z => ne (h1.mp z)
    show (if dt n g i = 0 then [] else (cutN n i).getD ((goodN n g i).headD 0) (0, 0) :: rowN n g f ((nbN n i).getD ((goodN n g i).headD 0) 0)) = _
    rw [if_neg h0, hk]
    rfl
theorem row_end {n g i f : Nat} (h : dt n g i = 0) : rowN n g (f + 1) i = [] := by
  show (if dt n g i = 0 then [] else (cutN n i).getD ((goodN n g i).headD 0) (0, 0) :: rowN n g f ((nbN n i).getD ((goodN n g i).headD 0) 0)) = _
  rw [if_pos h]
theorem rowN_len (n g : Nat) : ∀ f i, (rowN n g f i).length ≤ f
  | 0, _ => Nat.zero_le _
  | f + 1, i => by
    show (if dt n g i = 0 then [] else (cutN n i).getD ((goodN n g i).headD 0) (0, 0) :: rowN n g f ((nbN n i).getD ((goodN n g i).headD 0) 0)).length ≤ f + 1
    split
    · exact Nat.zero_le _
    · rw [List.length_cons]
      have := rowN_len n g f ((nbN n i).getD ((goodN n g i).headD 0) 0)
      omega
section
variable {X : Cx} {o i : Expr} {pos : Pos} {td ty : TE}
/-- the reading of d[c] -/
def tNdGet (P : Program) (w : World) (td ty : TE) : TE := fun σ H Q => td σ H fun x H1 => ty σ H1 fun y H2 => ∃ d kvs c v, x = .ref d ∧ ND P w H2 d kvs ∧ Ct H2 y c ∧ kvs.lookup c = some v ∧ Q (.int v) H2
theorem pe_ndgetP (P : Program) (w : World) (eP : X.prog = P) (ew : X.w = w) (hu : X.A.units + 64 < cLine) (ho : PE X o td) (hi : PE X i ty) (hs : NoSl i) : PE X (.Subscript o i pos) (tNdGet P w td ty) := by
  subst eP ew
  exact pe_ndget hu ho hi hs
end
end Fs
/-! Flipsheets, the law's defs 6: _law_row. -/
namespace Fs
open PySem L2 PySem.Spec PyProof.Rows
section
variable
  {P : Program}
  {w : World} {K : PySem.W.Frag} {mg : Str → Option Value} {base : Heap}
abbrev sLRow : Stmt := top 32
def spLRow (P : Program) (w : World) : Sp := fun vs H Q _ => ∃ (n g i : Nat) (v : V) (d : Addr), vs = [.int n, v, .ref d] ∧ Poly n ∧ g < sizeN n ∧ i < sizeN n ∧ Ct H v (cutN n i) ∧ ND P w H d (kvsOf n (found n g)) ∧ ∀ H' v', Same H H' → Ct H' v' (rowN n g 13 i) → Q v' H'
theorem scLRow : FnScope ["_law_many_so", "_law_start", "_law_steps_so", "_law_here", "_law_found", "_law_good", "_law_one"] ["_law_many_so", "_law_start", "_law_steps_so"] (defScope sLRow) := ⟨rfl, rfl, rfl, by decide +kernel, rfl, by decide +kernel, by decide +kernel⟩
/-- a row and one more -/
theorem catA_one {X : Cx} {H H0 : Hp} {fv : V} {t : Addr} {r : List P2} {u : V} {dg : P2} {Q : VK} (hf : Ct H0 fv r) (sm : TSm H0 H) (ht : H t = some (.tup [u])) (hu : Pr H u dg) (hl : r.length ≤ 100)
    (h : ∀ v' H', Same H H' → Ct H' v' (r ++ [dg]) → Q v' H') : rCatA X.K fv (.ref t) H Q := by
  obtain ⟨fa, fvs, rfl, hfa, pfa⟩ := Ct.mono _ _ _ _ sm hf
  refine ⟨fa, t, fvs, [u], rfl, rfl, SqT.of hfa, SqT.of ht, ?_, fun e => ?_, fun _ e => (by cases e), fun _ _ p hp => ?_⟩
  · rw [paired_len pfa, sizeLine_eq]
    show r.length + 1 ≤ _
    omega
  · subst e
    cases pfa
    exact h _ _ (Same.refl H) ⟨t, _, rfl, ht, paired_one hu⟩
  · have s := same_new (o := .tup (fvs ++ [u])) (Same.refl H) hp
    exact h _ _ s ⟨p, _, rfl, upd_same, paired_app (pair_mono Pr.mono (same_ts s) pfa) (paired_one (Pr.mono _ _ _ _ (same_ts s) hu))⟩
theorem ok_lrow {f : Addr} {fd : FuncData} (B : Blt mg) (GF : Has P w K mg base CX0 2 "_law_flipped_so" ["_law_many_so", "_law_cutting_so", "_law_one"] spLFlip) (D : Df K mg "_law_row" sLRow f fd) : Has P w K mg base CX0 3 "_law_row" ["_law_many_so", "_law_start", "_law_steps_so"] (spLRow P w) := by
  refine has_of D (D.fn.ok scLRow (fun vs H Q E h => ?_) (fun cdv A outer s H vs Q E hr h => ?_)) (D.fn.binds fun _ _ _ _ _ _ us hl => match us, hl with | [_, _, _], _ => rfl)
  · obtain ⟨n, g, i, v, d, rfl, _⟩ := h
    rfl
  · obtain ⟨n, g, i0, v, d, rfl, hp, hg, hi0, hc, hnd, Z⟩ := h
    have hu := hr.units
    refine ⟨_, pss_cons (ps_asg (pe_tup (pa_cons (pv 1) (pa_cons (pe_tup pa_nil) pa_nil))) (pg_tup rfl (pgs_cons (pg_name (i := 3) scLRow.nd rfl (.inr rfl)) (pgs_cons (pg_name (i := 4) scLRow.nd rfl (.inl rfl)) pgs_nil))))
      (pss_cons (ps_while PassesOwn.never (pt_cmpR op_gt (pe_ndgetP P w rfl rfl hu (pv 2) (pv 3) (fun _ _ => rfl)) pe_int (nomark _))
        (pss_cons (ps_setLc (i := 5) (own := [("_law_one", 6)]) (g := gName 6) rfl scLRow.nd rfl rfl (sw_true rfl rfl rfl (by decide +kernel)) (pi_tup (pv 3)) (blkOk_by (N := ["_law_many_so", "_law_start", "_law_steps_so", "_law_here", "_law_found", "_law_good", "_law_one"]) (sc := defScope sLRow) (by decide +kernel))
          (fun _ _ _ _ _ => pg_name (i := 6) scLRow.nd rfl (Or.inl rfl)) (fun _ _ _ _ _ => pts_one (pt_cmpR op_lt (pe_ndgetP P w rfl rfl hu (pv 2) (pe_has GF hr rfl pass0 (pa_cons (pv 0) (pa_cons (pv 3) (pa_cons (pv 6) pa_nil)))) (fun _ _ => rfl)) (pe_ndgetP P w rfl rfl hu (pv 2) (pv 3) (fun _ _ => rfl)) (nomark _))) (fun _ _ _ _ _ => pv 6))
        (pss_cons (ps_set (i := 4) scLRow.nd rfl (.inl rfl) (pe_op op_catA (pv 4) (pe_tup (pa_cons (pe_callB (call_minP rfl hu) (by rfl) B.min PyProof.Rows.boot_min (pa_cons (pv 5) pa_nil)) pa_nil))))
        (pss_one (ps_set (i := 3) scLRow.nd rfl (.inr rfl) (pe_has GF hr rfl pass0 (pa_cons (pv 0) (pa_cons (pv 3) (pa_cons (pe_callB (call_minP rfl hu) (by rfl) B.min PyProof.Rows.boot_min (pa_cons (pv 5) pa_nil)) pa_nil)))))))))
      (pss_one (ps_ret (pv 4)))), ?_⟩
    refine ⟨_, rfl, Nat.zero_le _, fun e he => ⟨(by show 2 ≤ sizeLine; decide), fun t ht => ?_⟩⟩
    have sm1 := same_new (o := .tup []) (Same.refl H) he
    have sm2 := same_new (o := .tup [v, .ref e]) sm1 ht
    have het : (upd (upd H e (.tup [])) t (.tup [v, .ref e])) e = some (.tup []) := by
      rw [upd_ne (ne_of_none upd_same ht), upd_same]
    refine ⟨t, _, rfl, SqT.of upd_same, rfl, _, _, rfl, _, _, rfl, rfl, ?_⟩
    refine ⟨fun m σ H' => ∃ (i : Nat) (r : List P2) (hv fv : V) (s5 s6 : Option V), dt n g i < m ∧ σ = [some (.int n), some v, some (.ref d), some hv, some fv, s5, s6] ∧ i < sizeN n ∧ Same H H' ∧ Ct H' hv (cutN n i) ∧ Ct H' fv r ∧ r.length + m = 13 ∧ rowN n g 13 i0 = r ++ rowN n g m i,
      ⟨13, i0, [], v, .ref e, none, none, ?_, rfl, hi0, sm2, Ct.mono _ _ _ _ (same_ts sm2) hc, ⟨e, [], rfl, het, .nil⟩, rfl, rfl⟩, ?_⟩
    · have := (fact_good hp hg hi0).2.1
      omega
    rintro m σ H1 ⟨i, r, hv, fv, s5, s6, hm, rfl, hi, st, hhv, hfv, hrm, hrow⟩
    have hlk := found_lookup hp hg hi
    have nd1 := hnd.same st
    refine ⟨_, rfl, _, rfl, d, _, cutN n i, _, rfl, nd1, hhv, hlk, _, _, rfl, rfl, _, rfl, ite2 (fun x => ?_) (fun x => ?_)⟩
    · have hne : i ≠ g := fun z => by
        have := (fact_good hp hg hi).1.mpr z
        have := of_decide_eq_true x
        omega
      obtain ⟨k, FG⟩ := first_good hp hg hi hne
      obtain ⟨c, hgd, hmin⟩ := FG.fst
      obtain ⟨m, rfl⟩ : ∃ m', m = m' + 1 := ⟨m - 1, by omega⟩
      have hnb := fact_nb hp hi
      obtain ⟨wa, cvs, rfl, hca, pca⟩ := id hhv
      have hlen4 : (cutN n i).length ≤ 4 := by
        have := poly_le hp
        omega
      refine ⟨fun σ' H' => ∃ (i : Nat) (r : List P2) (hv fv : V) (s5 s6 : Option V), dt n g i < m ∧ σ' = [some (.int n), some v, some (.ref d), some hv, some fv, s5, s6] ∧ i < sizeN n ∧ Same H H' ∧ Ct H' hv (cutN n i) ∧ Ct H' fv r ∧ r.length + m = 13 ∧ rowN n g 13 i0 = r ++ rowN n g m i,
        fun σ' H' q => ⟨m, Nat.lt_succ_self _, q⟩, ?_⟩
      -- the good ones
      refine ⟨_, rfl, wa, rfl, ⟨_, SqT.of hca⟩, fun D hD => lc_tup (K := K) (a := wa) (xs := cvs) (fun j H' => Same H1 H' ∧ LsOf Pr H' D (gdN n g i j)) ⟨same_new (Same.refl H1) hD, LsOf.new⟩ (fun j H' _ s => SqT.of (s.1 _ _ hca)) ?_ ?_⟩
      · rintro j y H3 hj ⟨sm3, ls3⟩
        obtain ⟨dg, hdg, hPd⟩ := L2.paired_get pca hj
        have hPd3 := Pr.mono _ _ _ _ (same_ts sm3) hPd
        have hC3 := Ct.mono _ _ _ _ (same_ts sm3) hhv
        have hjl : j < (cutN n i).length := (List.getElem?_eq_some_iff.mp hdg).1
        have edg : (cutN n i).getD j (0, 0) = dg := by rw [List.getD_eq_getElem?_getD, hdg]; rfl
        have ffl := fact_flipL hp hi hjl
        have hgs := gdN_succ n g i j
        obtain ⟨nj, hnj⟩ : ∃ nj, (nbN n i)[j]? = some nj := ⟨_, List.getElem?_eq_getElem (by omega)⟩
        have enj : (nbN n i).getD j 0 = nj := by rw [List.getD_eq_getElem?_getD, hnj]; rfl
        rw [edg, enj] at ffl hgs
        have hnjl : nj < sizeN n := hnb.2.2 nj (List.mem_of_getElem? hnj)
        have nd3 := nd1.same sm3
        refine ⟨rfl, _, rfl, _, rfl, _, rfl, _, rfl, n, _, y, cutN n i, dg, _, rfl, (poly_le hp).2, hC3, hPd3, by omega, ffl, fun H4 r' sm4 hr4 => ?_⟩
        have nd4 := nd3.same sm4
        refine ⟨d, _, cutN n nj, _, rfl, nd4, hr4, found_lookup hp hg hnjl, _, rfl, _, rfl, d, _, cutN n i, _, rfl, nd4, Ct.mono _ _ _ _ (same_ts sm4) hC3, hlk, _, _, rfl, rfl, _, rfl, ite2 (fun w1 => ?_) (fun w1 => ?_)⟩
        · obtain ⟨ws, hws, pws⟩ := ls3.same Pr.mono sm4
          have w2 : decide (dt n g nj < dt n g i) = true := by
            have := of_decide_eq_true w1
            exact (decide_eq_true (by omega))
          refine ⟨_, rfl, _, hws, ?_, same_put (sm3.trans sm4) hD, ?_⟩
          · have := gdN_len n g i j
            rw [paired_len pws, sizeLine_eq]
            omega
          · rw [hgs, if_pos w2]
            exact LsOf.snoc Pr.mono hws pws (Pr.mono _ _ _ _ (same_ts sm4) hPd3)
        · have w2 : ¬ decide (dt n g nj < dt n g i) = true := fun z => w1 (by
            have := of_decide_eq_true z
            exact decide_eq_true (by omega))
          refine ⟨sm3.trans sm4, ?_⟩
          rw [hgs, if_neg w2, List.append_nil]
          exact ls3.same Pr.mono sm4
      · rintro H3 ⟨sm3, ls3⟩
        rw [paired_len pca, hgd] at ls3
        -- found + (min(good),)
        refine ⟨_, rfl, _, rfl, D, _, c, rfl, ls3, fun u hu1 => ⟨(by show 1 ≤ sizeLine; decide), fun t4 ht4 => ?_⟩⟩
        rw [hmin] at hu1
        have sm4 := same_new (o := .tup [u]) (Same.refl H3) ht4
        refine catA_one hfv (same_ts (sm3.trans sm4)) upd_same (Pr.mono _ _ _ _ (same_ts sm4) hu1) (by omega) fun fv' H5 sm5 hfv5 => ?_
        have sm45 := sm4.trans sm5
        have sm345 := sm3.trans sm45
        refine ⟨_, rfl, _, rfl, _, rfl, D, _, c, rfl, ls3.same Pr.mono sm45, fun u5 hu5 => ?_⟩
        rw [hmin] at hu5
        refine ⟨n, _, u5, cutN n i, _, _, rfl, (poly_le hp).2, Ct.mono _ _ _ _ (same_ts sm345) hhv, hu5, by omega, fact_flipL hp hi FG.lt, fun H6 hv6 sm6 hhv6 => ?_⟩
        refine ⟨_, r ++ [_], hv6, fv', _, _, ?_, rfl, FG.nb, st.trans (sm345.trans sm6), hhv6, Ct.mono _ _ _ _ (same_ts sm6) hfv5, ?_, ?_⟩
        · have := FG.near
          omega
        · rw [List.length_append, List.length_singleton]
          omega
        · rw [hrow, FG.row, List.append_assoc]
          rfl
    · have h0 : dt n g i = 0 := by
        have : ¬ ((0 : Int) < (dt n g i : Int)) := fun z => x (decide_eq_true z)
        omega
      obtain ⟨m, rfl⟩ : ∃ m', m = m' + 1 := ⟨m - 1, by omega⟩
      rw [row_end h0, List.append_nil] at hrow
      rw [← hrow] at hfv
      exact ⟨_, rfl, Z _ _ st hfv⟩
end
end Fs
/-! Flipsheets, errors 1: BadParameter(v), its __init__ with super(). -/
namespace Fs
open PySem PySem.W PySem.Calls PyProof.Rows PySem.HandSPX
abbrev sBadCls : Stmt := top 3
def clsBody (st : Stmt) : List Stmt := match st with
  | .ClassDef (body := inner) .. => inner
  | _ => []
abbrev sBadI : Stmt := (clsBody sBadCls).getD 0 (.Pass ⟨0, 0, 0, 0⟩)
/-- what the written part says of BadParameter, at C, and of its __init__, at fI -/
structure BadTxt (P : Program) (K : Frag) (mg : Str → Option Value) (C fI : Addr) : Prop where
  gC : mg "BadParameter" = some (.ref C)
  su : mg "super" = none
  cls : ∃ nm q N bs bm sn sub ab col dd k0 k1 k2 k3 k5, K.lookup C = some (excClassObj nm q C N bs bm true sn sub ab col dd k0 k1 k2 k3 k5 "ValueError.__new__") ∧ refsVE bm = true
  sup : ks_superIn K C C "__init__" = some (some (.builtin "ValueError.__init__"))
  sa : findIn K (.ref C) "__setattr__" = some (some (.builtin "object.__setattr__"))
  ga : findIn K (.ref C) "__getattribute__" = some (some (.builtin "BaseException.__getattribute__"))
  gg : findIn K (.ref C) "__getattr__" = some none
  noN : findIn K (.ref C) "value" = some none
  iC : findIn K (.ref C) "__init__" = some (some (.ref fI))
  tC : typeIn K (.ref fI) = some (.type "function")
  kC : keepIn K (.ref C) = true
  exC : subIn K (.ref C) (.type "BaseException") = some true
  veC : subIn K (.ref C) (.type "ValueError") = some true
  tyC : typeIn K (.ref C) = some (.type "type")
  hdC : hasDictIn K C = true
  slf : mroIn K C (.ref C) = some true
  op : nsIn K cStatics "thirdparty.any" = some none
  top : (P.main.scope.names.lookup ("super" : Str)).isSome = false
  fn : ∃ (oc : Value) (od : Option Addr) (doc pm : Value) (an : Option Addr) (cda cc : Addr) (ct : Value) (osl : Array (Option Value)),
    K.lookup fI = some ⟨oc, od, .func (ksFn "__init__" "BadParameter.__init__" (L2.defArgs sBadI) (L2.defBody sBadI) (L2.defScope sBadI) .none .none doc pm an (.ref cda) ct cc), osl⟩ ∧ codeIn K (.ref cda) "BadParameter.__init__" = true ∧
    (∃ (ccl : Value) (cdd : Option Addr) (vs : Array Value) (ccs : Array (Option Value)) (file : Str) (tf : Tok), K.lookup cda = some ⟨ccl, cdd, .fields vs, ccs⟩ ∧ vs[2]? = some (.str file tf) ∧ ((P.main.file : Str) == file) = true) ∧
    ∃ (cl : Value) (cld : Option Addr) (csl : Array (Option Value)), K.lookup cc = some ⟨cl, cld, .cell (some (.ref C)), csl⟩
/-- what __init__ leaves of a fresh exception at x -/
structure InitEnd (h h' : Heap) (x C dx t1 : Addr) (v : Value) : Prop where
  keep : ∀ b o, b ≠ x → h.get? b = some o → h'.get? b = some o
  obj : h'.get? x = some { cls := .ref C, dict := some dx, data := .fields #[.ref t1, .none, .none, .none, .bool false, .none] }
  dbig : h.objs.size ≤ dx
  dne : dx ≠ x
  ns : h'.Ns1 dx (fun y => if y = "value" then some v else none)
/-- a made error -/
structure OwnMade (h h' : Heap) (e C d : Addr) (v : Value) : Prop where
  keep : ∀ b o, h.get? b = some o → h'.get? b = some o
  new : h.objs.size ≤ e
  obj : ∃ oe vs, h'.get? e = some oe ∧ oe.cls = .ref C ∧ oe.dict = some d ∧ oe.data = .fields vs ∧ vs[1]? = some .none
  dbig : h.objs.size ≤ d
  dne : d ≠ e
  ns : h'.Ns1 d (fun y => if y = "value" then some v else none)
theorem ns_keep {h h' : Heap} {L : Addr} {m : Str → Option Value} (n : h.Ns L m) (k : ∀ o, h.get? L = some o → h'.get? L = some o) : h'.Ns L m := by
  obtain ⟨oL, es, ep, hL, r⟩ := n
  exact ⟨oL, es, ep, k _ hL, r⟩
section
variable
  {prog : Program}
  {w : World} {A : Around} {E : Value → Shared → Prop} {h : Heap} {g : Array GenState} {d : Drawn} {t : Nat} {os : OsState}
variable
  {nm q : Str}
  {C N : Addr} {bs bm : List Value} {hdct : Bool} {sn : List Str} {sub : List Value} {ab : Bool} {col : Option Bool} {dd : Option Addr} {k0 k1 k2 k3 k5 : Option Value}
/-- the bound ValueError.__init__ called -/
theorem call_mw {u e t0 : Addr} {rest : List Value} {Q : Value → Shared → Prop}
    (hC : h.get? C = some (excClassObj nm q C N bs bm hdct sn sub ab col dd k0 k1 k2 k3 k5 "ValueError.__new__")) (he : h.get? e = some (excO C t0)) (hu : h.get? u = some (kxs_mw "ValueError.__init__" e)) (hrest : rest.length ≤ sizeLine)
    (hq : ∀ h' t1, (∀ b o, b ≠ e → h.get? b = some o → h'.get? b = some o) → h'.get? e = some (excO C t1) → h.objs.size ≤ h'.objs.size → Q .none ⟨h', g, d, t, os⟩) :
    wpAny (model prog w) A (call (.ref u) rest)
      Q E ⟨h, g, d, t, os⟩ := by
  refine (wpAny_call (codeAny_of_tree ?_))
  show wpAny _ (Around.in1 A) (callAny (.ref u) ⟨rest, []⟩) _ _ _
  simp only [callAny]
  refine (wpAny_bind (wpAny_load hu ?_))
  simp only [show (Value.type "method-wrapper" == Value.type "method" || Value.type "method-wrapper" == Value.type "builtin_function_or_method" || Value.type "method-wrapper" == Value.type "method-wrapper") = true by decide, if_true, kxs_mw]
  refine (KFB.if_so (by decide) ?_)
  refine wpAny_bind (check_bound_init PySem.F.excBase_ValueError.toExcCallFacts hC he rfl ?_)
  refine (wpAny_bind (wpAny_pure (wpAny_pure ?_)))
  refine ⟨plainId_quiet PySem.F.excBase_ValueError.init.plain _, codeAny_builtin PySem.F.excBase_ValueError.initEntry ?_⟩
  refine exc_init_tree (cls := .ref C) (t0 := t0) (dv := none) (c2 := .none) (c3 := .none) (b4 := .bool false) he hrest fun h' k e' t' => ?_
  exact hq h' h.objs.size k e' (Nat.le_of_lt (Heap.lt_size t'))
theorem callWith_mw {M : Model} {s : Shared} {env : Env} {pos : Pos} {u x : Addr} {e : Expr} {rest : List Expr} {Q : Value → Shared → Prop}
    (h : wpAny M A (spliced (backTo pos (starEach (e :: rest) env))) (fun vs s₁ => s₁.heap.get? u = some (kxs_mw "ValueError.__init__" x) ∧ wpAny M A (call (.ref u) vs) Q E s₁) E s)
    (each : starEach (e :: rest) env = (false, eval e env) :: starEach rest env := by rfl) (noStar : (backTo pos (starEach rest env)).any (·.1) = false := by rfl) :
    wpAny M A (callWith pos (.ref u) []
      (backTo pos (starEach (e :: rest) env)) []) Q E s := by
  rw [each] at h ⊢
  refine kxs_callWith (i := "ValueError.__init__") (x := x) (by show (false || (backTo pos (starEach rest env)).any (·.1)) = false; rw [noStar]; rfl) ?_
  exact evalArgs_plain h
end
section
variable {prog : Program} {w : World} {A : Around} {E : Value → Shared → Prop} {R : Result → Shared → Prop} {s : Shared} {K : Frag} {mg : Str → Option Value} {C fI : Addr} {base : Heap}
theorem bad_init (T : BadTxt prog K mg C fI) (M : L2.Mod K mg base) (kb : ∀ b o, base.get? b = some o → s.heap.get? b = some o) {x t0 : Addr} {v : Value} (hx : s.heap.get? x = some (excO C t0)) (hnx : K.lookup x = none) (hroom : A.depth < recursionLimit)
    (hq : ∀ h' tk dx t1, InitEnd s.heap h' x C dx t1 v → R (.ok (.ret .none)) { s with heap := h', toks := tk }) :
    codeAny (model prog w) A (.call (.ref fI) ⟨[.ref x, v], []⟩) R s := by
  obtain ⟨oc, od, doc, pm, an, cda, cc, ct, osl, ho, hcd, ⟨ccl, cdd, vs, ccs, file, tf, hcode, hvs, hfile⟩, cl, cld, csl, hcell⟩ := T.fn
  rcases T.cls with ⟨nm, q, N, bs, bm, sn, sub, ab, col, dd, k0, k1, k2, k3, k5, hC, hbm⟩
  have hcl : clsIn K C = some { name := nm, bases := bs, mro := .ref C :: bm, ns := N, qualname := q, hasDict := true, slotNames := sn, subclasses := sub, abstract := ab, collection := col, hasDel := false } := by unfold clsIn; rw [hC] <;> rfl
  obtain ⟨mb, hmb, hbl⟩ := M.blt
  rcases s with ⟨hp, g, dr, tk, os⟩
  have X : K.In hp := M.kin.keeps kb
  refine ks_codeAny_call_defAt (fd := ksFn "__init__" "BadParameter.__init__" (L2.defArgs sBadI) (L2.defBody sBadI) (L2.defScope sBadI) .none .none doc pm an (.ref cda) ct cc) (body := L2.defBody sBadI) (binds := [("self", .ref x), ("value", v)])
    hroom (X _ _ ho) rfl (M.nolimit.keeps kb) (codeRec_of X hcd) rfl (BindsTo.of_eq (by first | rfl | with_unfolding_all rfl)) (show ∀ y ∈ (L2.defScope sBadI).names, y.2 ≠ .cell by decide +kernel) (fun y hy => ?_) (fun h₁ hns k₁ => ?_) rfl rfl rfl
  · rcases List.mem_cons.mp hy with e | hy
    · rw [e]; exact (show (L2.defScope sBadI).names.lookup ("self" : Str) = some .local by decide +kernel)
    · rw [List.mem_singleton.mp hy]; exact (show (L2.defScope sBadI).names.lookup ("value" : Str) = some .local by decide +kernel)
  have X₁ : K.In h₁ := X.keeps k₁
  have hx₁ := k₁ _ _ hx
  have hLx : hp.objs.size ≠ x := Nat.ne_of_gt (Heap.lt_size hx)
  have kb₁ : ∀ b o, base.get? b = some o → h₁.get? b = some o := fun b o e => k₁ b o (kb b o e)
  refine ks_wpAt_execs_cons (ks_wpAt_Expr_any (ks_wpAt_MethodCall ?_))
  refine ks_wpAt_super_base rfl rfl (by decide) rfl (X₁ _ _ ho) rfl (ar := { arg := "self", annotation := none, pos := ⟨11, 17, 11, 21⟩ }) rfl rfl (X₁ _ _ hcode) rfl hvs hfile T.top ?_
  refine ks_loadName_global rfl rfl (loadGlobal_builtin (M.glob.keeps kb₁) T.su (hmb.keeps kb₁) ((hbl "super" (by decide)).trans (show bootBuiltins "super" = some (.type "super") by decide +kernel)) ⟨rfl, ?_⟩)
  refine wpAny_loadName_free rfl rfl rfl ⟨_, X₁ _ _ hcell, rfl⟩ ?_
  refine wpAny_loadName_local rfl rfl hns (by first | rfl | decide +kernel) ?_
  refine ks_wpAny_isType_cls (X₁ _ _ hC) rfl ⟨rfl, ?_⟩
  refine ks_wpAny_call_super (X₁ _ _ hC) rfl hx₁ rfl (fun c e => by cases e) (looks_mroIn X₁ T.slf) (fun h₂ e₂ k₂ => ?_)
  have X₂ : K.In h₂ := X₁.keeps k₂
  have hx₂ := k₂ _ _ hx₁
  have I₂ : InstAt h₂ x (excO C t0) C none := ⟨hx₂, rfl, rfl, trivial⟩
  have hsup := T.sup
  unfold ks_superIn at hsup
  rw [hcl] at hsup
  refine kxs_getMethod kxs_ValueError e₂ (looks_opaque X₂ T.op) (l₀ := .ref C :: bm) (fun A Q E s k q => wpAny_bind ((looks_clsIn X₂ hcl) A _ E s k (wpAny_pure q))) rfl X₂ hsup (I₂.type.andThen (looks_subIn X₂ T.veC)) (fun z => ?_) rfl ?_
  · rw [z, X₂ _ _ hC] at hx₂
    cases hx₂
  have hns₂ : h₂.Ns hp.objs.size (fun y => ([("self", Value.ref x), ("value", v)] : List (Str × Value)).reverse.lookup y) := ns_keep hns fun o e => k₂ _ _ e
  have k₃ : ∀ b o, h₂.get? b = some o → (h₂.push (kxs_mw "ValueError.__init__" x)).get? b = some o := fun b o e => Heap.get?_push_of_some _ e
  have hns₃ := ns_keep hns₂ fun o e => k₃ _ _ e
  refine callWith_mw (x := x) ?_
  refine spliced_more (wpAny_Constant_str (spliced_more (wpAny_Name (wpAny_loadName_local rfl rfl hns₃ (by first | rfl | decide +kernel) (spliced_none ⟨Heap.get?_push_size h₂ rfl, ?_⟩)) (by decide))))
  refine call_mw (k₃ _ _ (X₂ _ _ hC)) (k₃ _ _ hx₂) (Heap.get?_push_size h₂ rfl) (by rw [sizeLine_eq]; exact (by decide : 2 ≤ 16777216)) (fun h₄ t1 k₄ hx₄ z₄ => ?_)
  have hns₄ := ns_keep hns₃ fun o e => k₄ _ _ hLx e
  have X₃ : K.In (h₂.push (kxs_mw "ValueError.__init__" x)) := X₂.keeps k₃
  have X₄ : K.In h₄ := fun a o e => k₄ a o (fun z => by rw [z, hnx] at e; cases e) (X₃ a o e)
  show _root_.PySem.wpAt _ _ _ (execs _ _) _ _ _
  refine wpAt_of_wpAny (wpAny_execs_cons (plainObj_wpAny_Assign_Attribute ?_))
  refine wpAny_Name (wpAny_loadName_local rfl rfl hns₄ (by first | rfl | decide +kernel) (wpAny_Name (wpAny_loadName_local rfl rfl hns₄ (by first | rfl | decide +kernel) ?_) (by decide))) (by decide)
  refine set_plain X₄ (ox := excO C t1) (od := none) ⟨hx₄, rfl, rfl, trivial⟩ T.sa ?_
  refine exc_osa X₄ hx₄ hcl (show refsVE (.ref C :: bm) = true from hbm) rfl T.noN (fun h₅ tk₅ dx k₅ dn dne hx₅ hn₅ => ?_)
  show wpAny _ _ (execs _ _) _ _ _
  refine wpAny_execs_nil (hq h₅ tk₅ dx t1 ⟨fun b o hb e => k₅ b o hb (k₄ b o hb (k₃ b o (k₂ b o (k₁ b o e)))), hx₅, ?_, dne, hn₅⟩)
  have z1 : hp.objs.size < h₁.objs.size := hns.lt
  have z2 : h₁.objs.size < h₂.objs.size := Heap.lt_size e₂
  have z4 : h₄.objs.size ≤ dx := dn
  have z5 : (h₂.push (kxs_mw "ValueError.__init__" x)).objs.size ≤ h₄.objs.size := z₄
  show hp.objs.size ≤ dx
  have z3 : (h₂.push (kxs_mw "ValueError.__init__" x)).objs.size = h₂.objs.size + 1 := by rw [Heap.size_push]
  omega
theorem bad_made (T : BadTxt prog K mg C fI) (M : L2.Mod K mg base) (kb : ∀ b o, base.get? b = some o → s.heap.get? b = some o) {v : Value} (hroom : A.depth + 1 < recursionLimit)
    (hq : ∀ h' tk e d, OwnMade s.heap h' e C d v → R (.ok (.ret (.ref e))) { s with heap := h', toks := tk }) :
    codeAny (model prog w) A (.call (.ref C) ⟨[v], []⟩) R s := by
  rcases T.cls with ⟨nm, q, N, bs, bm, sn, sub, ab, col, dd, k0, k1, k2, k3, k5, hC, hbm⟩
  rcases s with ⟨hp, g, dr, tk, os⟩
  have X : K.In hp := M.kin.keeps kb
  have k : ∀ b o, hp.get? b = some o → ((hp.push (kdv_tup [v])).push (excO C hp.objs.size)).get? b = some o := fun b o e => Heap.get?_push_of_some _ (Heap.get?_push_of_some _ e)
  have hget : ((hp.push (kdv_tup [v])).push (excO C hp.objs.size)).get? (hp.objs.size + 1) = some (excO C hp.objs.size) := by heap_get
  have hnx : K.lookup (hp.objs.size + 1) = none := by
    cases e : K.lookup (hp.objs.size + 1) with
    | none => rfl
    | some o =>
      have z : hp.get? (hp.objs.size + 1) = some o := X _ _ e
      exact absurd (Nat.lt_of_succ_lt (Heap.lt_size z)) (Nat.lt_irrefl _)
  refine call_own PySem.F.excBase_ValueError (fun Y => refsVE_contains Y bm hbm) (X _ _ hC) (looks_findIn X T.iC) (fun self => bind_fn X self T.tC) (show [v].length ≤ sizeLine by rw [sizeLine_eq]; exact (by decide : 1 ≤ 16777216)) ?_
  refine bad_init (s := ⟨(hp.push (kdv_tup [v])).push (excO C hp.objs.size), g, dr, tk, os⟩) T M (fun b o e => k b o (kb b o e)) hget hnx ?_ fun h' tk' dx t1 ⟨k', hx, dn, dne, hns⟩ => ?_
  · show A.depth + 1 < recursionLimit
    exact hroom
  · have old : ∀ b o, hp.get? b = some o → h'.get? b = some o := fun b o e => k' b o (Nat.ne_of_lt (Nat.lt_succ_of_lt (Heap.lt_size e))) (k b o e)
    have z : hp.objs.size + 1 + 1 ≤ dx := by
      have q := dn
      first
        | (simpa only [Heap.size_push] using q)
        | exact q
        | (rw [Heap.size_push, Heap.size_push] at q; exact q)
    exact ⟨rfl, hq h' tk' (hp.objs.size + 1) dx ⟨old, Nat.le_succ _, ⟨_, _, hx, rfl, rfl, rfl, rfl⟩, Nat.le_trans (Nat.le_trans (Nat.le_succ _) (Nat.le_succ _)) z, dne, hns⟩⟩
end
end Fs
namespace Fs
open PySem L2 PySem.Spec PyProof.Rows
theorem relO_val {v : V} {u : Value} (r : RelV v u) (f : Str) : RelO (List.lookup f [(("value" : Str), v)]) (if f = "value" then some u else none) := by
  by_cases hw : f = "value"
  · subst hw
    rw [if_pos rfl]
    have q : List.lookup ("value" : Str) [(("value" : Str), v)] = some v := by simp [List.lookup]
    rw [q]
    exact r
  · rw [if_neg hw]
    have qw : (f == ("value" : Str)) = false := by simpa using hw
    have q2 : List.lookup f [(("value" : Str), v)] = none := by simp [List.lookup, qw]
    rw [q2]
    trivial
section
variable {X : Cx} {C fI : Addr}
/-- BadParameter(e) -/
def tMkBad (C : Addr) (ta : TA) : L2.St → Hp → XK → Prop := fun σ H Q => ta σ H fun vs H1 => ∃ v, vs = [v] ∧ ∀ d, H1 d = none → Q (.ref C) (some d) (upd H1 d (.xd [(("value" : Str), v)]))
theorem pmk_bad {a : Expr} {ta : TA} {p pos : Pos} {k : Nat} (T : BadTxt X.prog X.K X.mg C fI) (hr : Room k X.A) (ha : PA X [a] ta) (hg : Gl X "BadParameter" := by rfl)
    (he : starEach (a :: []) X.env = (false, eval a X.env) :: starEach [] X.env := by rfl) (hpl : (backTo pos (starEach [] X.env)).any (·.1) = false := by rfl) :
    PMk X (.Call (.Name "BadParameter" p) [a] [] pos) (tMkBad C ta) := by
  intro pns s σ H Q I h
  refine wpAny_Call_Name_kw (ld_glob I hg T.gC ?_)
  refine PySem.W.callWith_K (h₀ := X.base) I.ok.mod.kin T.kC (thn (ha.run pos pns s σ H _ I h) fun us s1 hh => ?_) he hpl
  obtain ⟨vs, H1, I1, r1, v, ev, q1⟩ := hh
  subst ev
  refine ⟨I1.kIn, ?_⟩
  cases r1 with
  | cons rv rn =>
    rename_i v' us'
    cases rn
    show wpAny _ _ (call (.ref C) [v']) _ _ _
    have kb : ∀ b o, X.base.get? b = some o → s1.heap.get? b = some o := I1.bk
    rcases s1 with ⟨hp, g, dr, tk, os⟩
    refine wpAny_call (bad_made T I1.mod kb (by have := hr.dp; omega) fun h' tk' e d M => ?_)
    show MkP X pns σ Q (.ref e) ⟨h', g, dr, tk', os⟩
    obtain ⟨oe, fv, hoe, hc, hd, hdat, h1⟩ := M.obj
    have hns := M.ns
    obtain ⟨G', g1, g2⟩ := restrict h' fun b => decide (b ≠ e)
    have gk : ∀ b, b ≠ e → G'.get? b = h'.get? b := fun b hb => g1 b (decide_eq_true hb)
    have ge : G'.get? e = none := g2 e (by simp)
    have old : ∀ b o, hp.get? b = some o → G'.get? b = some o := fun b o q => (gk b (Nat.ne_of_lt (Nat.lt_of_lt_of_le (Heap.lt_size q) M.new))).trans (M.keep b o q)
    have ob : ObjOk X.prog X.w (upd H1 d (.xd [(("value" : Str), v)])) G' d (.xd [(("value" : Str), v)]) :=
      ⟨_, hns.at (fun o q => (gk d M.dne).trans q), fun f => relO_val rv f⟩
    have J : Inv X pns σ (upd H1 d (.xd [(("value" : Str), v)])) ⟨G', g, dr, tk', os⟩ := I1.laid (t' := tk') old M.dbig ob
    refine ⟨e, oe, fv, ⟨G', g, dr, tk', os⟩, _, .ref C, some d, rfl, J, fun b o q => ?_, ge, hoe, ⟨hc, hd⟩, hdat, h1, ?_, rfl, I1.bare, raises_own T.exC T.tyC, q1 d (I1.hok.fresh M.dbig)⟩
    · by_cases hb : b = e
      · have q' : G'.get? b = some o := q
        rw [hb, ge] at q'; cases q'
      · exact (gk b hb).symm.trans q
    · rw [upd_ne (Ne.symm M.dne)]
      exact I1.hok.fresh M.new
/-- raise BadParameter(e) -/
def tRaiseBad (C : Addr) (W : WX) (ta : TA) : TS := fun _ σ H => tMkBad C ta σ H fun cls d H' => W cls d σ H'
theorem ps_raiseBad {a : Expr} {ta : TA} {W : WX} {p pos pos2 : Pos} {k : Nat} (hc : X.calm = true) (T : BadTxt X.prog X.K X.mg C fI) (hr : Room k X.A) (tk : Takes X W) (ha : PA X [a] ta) (hg : Gl X "BadParameter" := by rfl)
    (he : starEach (a :: []) X.env = (false, eval a X.env) :: starEach [] X.env := by rfl) (hpl : (backTo pos (starEach [] X.env)).any (·.1) = false := by rfl) :
    PS X (.Raise (some (.Call (.Name "BadParameter" p) [a] [] pos)) none pos2) (tRaiseBad C W ta) := ps_raise hc tk (pmk_bad T hr ha hg he hpl)
end
end Fs
/-! Flipsheets, defs 5: need_corners, need_cutting. -/
namespace Fs
open PySem L2 PySem.Spec PyProof.Rows
/-! ### what is said of the tables -/
def chkVal (n : Nat) : Bool := (List.range (sizeN n)).all fun i => (fun c => c.all (fun p => isDiag n p && c.all fun q => !crossB p q) && (List.range c.length).all fun j => decide (c.length ≤ j + 1) || ltP (c.getD j (0, 0)) (c.getD (j + 1) (0, 0))) (cutN n i)
theorem chkVal_ok {n : Nat} (h : Poly n) : chkVal n = true := poly_all (p := chkVal) (by decide +kernel) h
theorem fact_val {n i : Nat} (h : Poly n) (hi : i < sizeN n) : (∀ p ∈ cutN n i, isDiag n p = true) ∧ (∀ p ∈ cutN n i, ∀ q ∈ cutN n i, crossB p q = false) ∧ ∀ j p q, (cutN n i)[j]? = some p → (cutN n i)[j + 1]? = some q → ltP p q = true := by
  have a := all_range (chkVal_ok h) hi
  simp only [Bool.and_eq_true] at a
  obtain ⟨a1, a2⟩ := a
  refine ⟨fun p hp => ?_, fun p hp q hq => ?_, fun j p q hp hq => ?_⟩
  · have z := List.all_eq_true.mp a1 p hp
    simp only [Bool.and_eq_true] at z
    exact z.1
  · have z := List.all_eq_true.mp a1 p hp
    simp only [Bool.and_eq_true] at z
    have y := List.all_eq_true.mp z.2 q hq
    simpa using y
  · have hl := (List.getElem?_eq_some_iff.mp hq).1
    have z := all_range a2 (show j < (cutN n i).length by omega)
    rcases Bool.or_eq_true _ _ ▸ z with z | z
    · have := of_decide_eq_true z
      omega
    · rw [List.getD_eq_getElem?_getD, hp, List.getD_eq_getElem?_getD, hq] at z
      exact z
/-- a zip of a tuple and a shorter one -/
theorem for_zipS {K : PySem.W.Frag} {a b : Addr} {xs ys : List V} {g : TG} {tb : TS} {D : Ends} {σ : L2.St} {H : Hp} (hl : ys.length ≤ xs.length) (Pv : Nat → L2.St → Hp → Prop) (h0 : Pv 0 σ H) (hq : ∀ i σ H, Pv i σ H → SqT K H a xs ∧ SqT K H b ys)
    (hs : ∀ (i : Nat) (x y : V) (T : Addr) (σ : L2.St) (H : Hp), xs[i]? = some x → ys[i]? = some y → Pv i σ H → H T = none → g (.ref T) σ (upd H T (.tup [x, y])) fun σ2 H2 => tb { D with nx := Pv (i + 1), ct := Pv (i + 1), bk := D.nx } σ2 H2) (hd : ∀ σ H, Pv ys.length σ H → D.nx σ H) :
    ∃ W : Nat → Nat → L2.St → Hp → Prop,
      (∃ m, W 0 m σ H) ∧ ∀ i m σ H, W i m σ H →
      ((RZ.ItzT K a b).stop i H ∧ D.nx σ H) ∨ ((RZ.ItzT K a b).go i H ∧ ∃ N : L2.St → Hp → Prop, (∀ σ' H', N σ' H' → ∃ m', m' < m ∧ W (i + 1) m' σ' H') ∧ ∀ v H', (RZ.ItzT K a b).yld i H v H' → g v σ H' fun σ2 H2 => tb { D with nx := N, ct := N, bk := D.nx } σ2 H2) := by
  refine ⟨fun i m σ H => m + i = ys.length ∧ Pv i σ H, ⟨ys.length, rfl, h0⟩, ?_⟩
  rintro i m σ H ⟨hm, p⟩
  obtain ⟨qx, qy⟩ := hq i σ H p
  by_cases hlt : i < ys.length
  · have hy : ys[i]? = some ys[i] := List.getElem?_eq_getElem hlt
    have hlt2 : i < xs.length := by omega
    have hx : xs[i]? = some xs[i] := List.getElem?_eq_getElem hlt2
    refine .inr ⟨⟨xs, ys, _, _, qx, qy, hx, hy⟩, Pv (i + 1), fun σ' H' p' => ⟨m - 1, by omega, by omega, p'⟩, fun v H' y => ?_⟩
    rcases y with ⟨T, x', y', rfl, hT, rfl, f1, f2⟩
    exact (hs i x' y' T σ H (f1 xs qx) (f2 ys qy) p hT)
  · have e : i = ys.length := by omega
    subst e
    exact .inl ⟨⟨xs, ys, qx, qy, Or.inr (Nat.le_refl _)⟩, hd σ H p⟩
/-- t[1:] -/
theorem slA_tail {K : PySem.W.Frag} {a : Addr} {H : Hp} {xs : List V} {Q : VK} (ha : H a = some (.tup xs)) (h : ∀ b H2, Same H H2 → H2 b = some (.tup (xs.drop 1)) → Q (.ref b) H2) {σ : L2.St} : tNoPart σ H fun u H3 => rSlA K (.ref a) (some 1) u H3 Q := by
  show rSlA K (.ref a) (some 1) none H Q
  refine ⟨a, xs, rfl, SqT.of ha, fun hw => ?_, fun hw p hp => ?_⟩
  · cases xs with
    | nil => exact h a H (Same.refl H) ha
    | cons x xs =>
      have z := HT.sIx_nat (x :: xs).length 0 1
      have e : ((1 : Nat) : Int) = (1 : Int) := rfl
      rw [e, hw.1, List.length_cons] at z
      omega
  · cases xs with
    | nil => exact absurd ⟨rfl, rfl⟩ hw
    | cons x xs =>
      rw [cutV_tail]
      exact h p _ (same_new (Same.refl H) hp) upd_same
section
variable {P : Program} {w : World} {K : PySem.W.Frag} {mg : Str → Option Value} {base : Heap} {C fI : Addr}
/-- what the program's bounds are -/
structure Bnds (mg : Str → Option Value) : Prop where
  few : ∃ t, mg "FEWEST" = some (.int 3 t)
  most : ∃ t, mg "MOST" = some (.int 7 t)
/-- BadParameter(v) goes out -/
def Bad (C : Addr) (v : V) (H : Hp) (E : XK) : Prop := ∀ H' d, Same H H' → H' d = none → E (.ref C) (some d) (upd H' d (.xd [(("value" : Str), v)]))
/-! ### need_corners -/
abbrev sNeedC : Stmt := top 10
def spNeedC (C : Addr) : Sp := fun vs H Q E => ∃ n : Int, vs = [.int n] ∧ ((3 ≤ n ∧ n ≤ 7 ∧ Q (.int n) H) ∨ (¬ (3 ≤ n ∧ n ≤ 7) ∧ Bad C (.int n) H E))
theorem scNeedC : FnScope ["corners"] ["corners"] (defScope sNeedC) := ⟨rfl, rfl, rfl, by decide +kernel, rfl, by decide +kernel, by decide +kernel⟩
theorem ok_needC {f : Addr} {fd : FuncData} (G : Bnds mg) (T : BadTxt P K mg C fI) (GF : Has P w K mg base CX0 1 "is_from" ["value", "low", "high"] spIsFrom) (D : Df K mg "need_corners" sNeedC f fd) : Has P w K mg base (L2.CX P w) 3 "need_corners" ["corners"] (spNeedC C) := by
  refine has_of D (D.fn.okX scNeedC (fun vs H Q E h => ?_) (fun cdv A outer s H vs Q E hr h => ?_)) (D.fn.binds fun _ _ _ _ _ _ us hl => match us, hl with | [_], _ => rfl)
  · obtain ⟨n, rfl, _⟩ := h
    rfl
  · obtain ⟨n, rfl, Z⟩ := h
    obtain ⟨t1, h3⟩ := G.few
    obtain ⟨t2, h7⟩ := G.most
    refine ⟨_, pss_cons (ps_if (pt_not (pt_val (pe_has GF (hr.mono (by decide)) rfl pass0 (pa_cons (pv 0) (pa_cons (pe_glob (v := .int 3) (by rfl) h3 ⟨_, rfl⟩) (pa_cons (pe_glob (v := .int 7) (by rfl) h7 ⟨_, rfl⟩) pa_nil)))))) (pss_one (ps_raiseBad rfl T hr (takes_of rfl rfl rfl rfl) (pa_cons (pv 0) pa_nil))) pss_nil)
      (pss_one (ps_ret (pv 0))), ?_⟩
    refine ⟨_, rfl, n, 3, 7, rfl, _, rfl, ?_⟩
    rcases Z with ⟨a, b, q⟩ | ⟨a, q⟩
    · rw [show decide ((3 : Int) ≤ n) = true from decide_eq_true a, show decide (n ≤ (7 : Int)) = true from decide_eq_true b]
      exact iteF ⟨_, rfl, q⟩
    · rw [show (decide ((3 : Int) ≤ n) && decide (n ≤ (7 : Int))) = false from Bool.eq_false_iff.mpr fun z => a (by simpa using z)]
      exact iteT ⟨_, rfl, _, rfl, fun d hd => q H d (Same.refl H) hd⟩
/-! ### need_cutting -/
abbrev sNeedV : Stmt := top 13
/-- no cutting: None, of a wrong length, or what stands first is no diagonal -/
def BadV (n : Int) (H : Hp) (v : V) : Prop := v = .non ∨ ∃ c, Ct H v c ∧ ((c.length : Int) ≠ n - 3 ∨ ((c.length : Int) = n - 3 ∧ ∃ p r, c = p :: r ∧ isDiag n p = false))
def spNeedV (C : Addr) : Sp := fun vs H Q E => ∃ (n : Int) (v : V), vs = [.int n, v] ∧ ((∃ m i : Nat, n = m ∧ Poly m ∧ i < sizeN m ∧ Ct H v (cutN m i) ∧ ∀ H', Same H H' → Q v H') ∨ (BadV n H v ∧ Bad C v H E))
theorem scNeedV : FnScope ["corners", "value", "diagonal", "near", "far", "one", "other"] ["corners", "value"] (defScope sNeedV) := ⟨rfl, rfl, rfl, by decide +kernel, rfl, by decide +kernel, by decide +kernel⟩
theorem ok_needV {f : Addr} {fd : FuncData} (B : Blt mg) (T : BadTxt P K mg C fI) (GD : Has P w K mg base CX0 2 "is_diagonal" ["corners", "value"] spIsDiag) (GX : Has P w K mg base CX0 1 "are_crossing" ["one", "other"] spCross)
    (D : Df K mg "need_cutting" sNeedV f fd) : Has P w K mg base (L2.CX P w) 3 "need_cutting" ["corners", "value"] (spNeedV C) := by
  refine has_of D (D.fn.okX scNeedV (fun vs H Q E h => ?_) (fun cdv A outer s H vs Q E hr h => ?_)) (D.fn.binds fun _ _ _ _ _ _ us hl => match us, hl with | [_, _], _ => rfl)
  · obtain ⟨n, v, rfl, _⟩ := h
    rfl
  · obtain ⟨n, v, rfl, Z⟩ := h
    have hu := hr.units
    refine ⟨_, pss_cons (ps_if (PW.pt (pw_or (pt_not (pt_val (pe_callB call_isi (by rfl) B.isinstance PyProof.Rows.boot_isinstance (pa_cons (pv 1) (pa_cons (pe_bltn (v := .ty "tuple") (by rfl) B.tuple PyProof.Rows.boot_tuple rfl) pa_nil)))))
        (pw_or1 (pt_cmpR op_ne (pe_callB call_len_seq (by rfl) B.len PySem.boot_len (pa_cons (pv 1) pa_nil)) (pe_op op_sub (pv 0) pe_int) (nomark _))))) (pss_one (ps_raiseBad rfl T hr (takes_of rfl rfl rfl rfl) (pa_cons (pv 1) pa_nil))) pss_nil)
      (pss_cons (ps_for (passes_of rfl) rfl (pi_tup (pv 1)) (pg_name (i := 2) scNeedV.nd rfl (.inl rfl))
        (pss_one (ps_if (pt_not (pt_val (pe_has GD hr rfl pass0 (pa_cons (pv 0) (pa_cons (pv 2) pa_nil))))) (pss_one (ps_raiseBad rfl T hr (takes_of rfl rfl rfl rfl) (pa_cons (pv 1) pa_nil))) pss_nil)))
      (pss_cons (ps_for (passes_of rfl) rfl (RZ.pi_zipA (by rfl) B.zip (pa_cons (pv 1) (pa_cons (pe_slice sl_tupA (pv 1) (po_some pe_int) po_none) pa_nil))) (pg_tup rfl (pgs_cons (pg_name (i := 3) scNeedV.nd rfl (.inl rfl)) (pgs_cons (pg_name (i := 4) scNeedV.nd rfl (.inl rfl)) pgs_nil)))
        (pss_one (ps_if (pt_cmpR (op_geP hu) (pv 3) (pv 4) (nomark _)) (pss_one (ps_raiseBad rfl T hr (takes_of rfl rfl rfl rfl) (pa_cons (pv 1) pa_nil))) pss_nil)))
      (pss_cons (ps_for (passes_of rfl) rfl (pi_tup (pv 1)) (pg_name (i := 5) scNeedV.nd rfl (.inr rfl))
        (pss_one (ps_if (pt_cmpR (op_onesNe hu) (pe_lc (own := [("other", 6)]) (g := gName 6) rfl scNeedV.nd (pi_tup (pv 1)) (blkOk_by (N := ["corners", "value", "diagonal", "near", "far", "one", "other"]) (sc := defScope sNeedV) (by decide +kernel))
            (fun _ _ _ _ _ => pg_name (i := 6) scNeedV.nd rfl (Or.inl rfl)) (fun _ _ _ _ _ => pts_one (pt_val (pe_has GX (hr.mono (by decide)) rfl pass0 (pa_cons (pv 5) (pa_cons (pv 6) pa_nil))))) (fun _ _ _ _ _ => pe_int)) (pe_lst pa_nil) (nomark _))
          (pss_one (ps_raiseBad rfl T hr (takes_of rfl rfl rfl rfl) (pa_cons (pv 1) pa_nil))) pss_nil)))
      (pss_one (ps_ret (pv 1)))))), ?_⟩
    rcases Z with ⟨m, i, rfl, hp, hi, hc, Z⟩ | ⟨Z, X⟩
    · obtain ⟨a, vs, rfl, ha, pa⟩ := id hc
      obtain ⟨f1, f2, f3⟩ := fact_val hp hi
      have hl := (fact_nb hp hi).2.1
      have hp3 := poly_le hp
      have hvl := paired_len pa
      have elen : V.int ((vs.length : Nat) : Int) = V.int ((m : Int) - 3) := by
        congr 1
        omega
      refine ⟨_, rfl, _, _, _, _, true, rfl, .ty "tuple", .base (.tup ha), kit_ty (by decide +kernel), true, rfl, iteF ?_⟩
      refine ⟨_, rfl, a, vs, rfl, .inr (SqT.of ha), _, rfl, _, _, rfl, rfl, rfl, _, rfl, ?_⟩
      rw [elen, decide_eq_true rfl]
      refine iteF ?_
      -- each a diagonal
      refine ⟨_, rfl, a, rfl, ⟨_, SqT.of ha⟩, for_tup (K := K) (a := a) (xs := vs) (fun j σ H' => (∃ s2, σ = [some (.int m), some (.ref a), s2, none, none, none, none]) ∧ Same H H') ⟨⟨none, rfl⟩, Same.refl H⟩ (fun j σ H' _ s => SqT.of (s.2 _ _ ha)) ?_ ?_⟩
      · rintro j y σ H1 hj ⟨⟨s2, rfl⟩, sm⟩
        obtain ⟨d, hd, hPd⟩ := L2.paired_get pa hj
        refine ⟨_, rfl, _, rfl, m, y, d, rfl, Pr.mono _ _ _ _ (same_ts sm) hPd, _, rfl, ?_⟩
        rw [f1 d (List.mem_of_getElem? hd)]
        exact iteF ⟨⟨_, rfl⟩, sm⟩
      rintro σ H1 ⟨⟨s2, rfl⟩, sm1⟩
      have ha1 := sm1 _ _ ha
      -- ascending
      refine ⟨_, rfl, _, rfl, _, rfl, slA_tail ha1 fun b H2 sm2 hb => ?_⟩
      have ha2 := sm2 _ _ ha1
      refine ⟨a, b, _, _, rfl, .inr ⟨SqT.of ha2, SqT.of hb, for_zipS (K := K) (a := a) (b := b) (xs := vs) (ys := vs.drop 1) (by rw [List.length_drop]; omega) (fun j σ H' => (∃ s3 s4, σ = [some (.int m), some (.ref a), s2, s3, s4, none, none]) ∧ Same H2 H') ⟨⟨none, none, rfl⟩, Same.refl H2⟩ (fun j σ H' s => ⟨SqT.of (s.2 _ _ ha2), SqT.of (s.2 _ _ hb)⟩) ?_ ?_⟩⟩
      · rintro j x y t σ H3 hj hj1 ⟨⟨s3, s4, rfl⟩, sm3⟩ ht
        rw [List.getElem?_drop, Nat.add_comm] at hj1
        obtain ⟨d, hd, hPd⟩ := L2.paired_get pa hj
        obtain ⟨e, he, hPe⟩ := L2.paired_get pa hj1
        have sm4 := same_new (o := .tup [x, y]) (sm1.trans (sm2.trans sm3)) ht
        refine ⟨t, _, rfl, SqT.of upd_same, rfl, _, _, rfl, _, _, rfl, rfl, ?_⟩
        refine ⟨_, rfl, _, rfl, d, e, Pr.mono _ _ _ _ (same_ts sm4) hPd, Pr.mono _ _ _ _ (same_ts sm4) hPe, _, rfl, ?_⟩
        rw [f3 j d e hd he]
        exact iteF ⟨⟨_, _, rfl⟩, same_new sm3 ht⟩
      rintro σ H3 ⟨⟨s3, s4, rfl⟩, sm3⟩
      have sm13 := sm1.trans (sm2.trans sm3)
      have ha3 := sm13 _ _ ha
      -- no two cross
      refine ⟨_, rfl, a, rfl, ⟨_, SqT.of ha3⟩, for_tup (K := K) (a := a) (xs := vs) (fun j σ H' => (∃ s5, σ = [some (.int m), some (.ref a), s2, s3, s4, s5, none]) ∧ Same H3 H') ⟨⟨none, rfl⟩, Same.refl H3⟩ (fun j σ H' _ s => SqT.of (s.2 _ _ ha3)) ?_ ?_⟩
      · rintro j y σ H4 hj ⟨⟨s5, rfl⟩, sm4⟩
        obtain ⟨d, hd, hPd⟩ := L2.paired_get pa hj
        have ha4 := sm4 _ _ ha3
        have sm14 := sm13.trans sm4
        refine ⟨_, rfl, a, rfl, ⟨_, SqT.of ha4⟩, fun D hD => lc_tup (K := K) (a := a) (xs := vs) (fun k H' => Same H4 H' ∧ Ones H' D 0) ⟨same_new (Same.refl H4) hD, upd_same⟩ (fun k H' _ s => SqT.of (s.1 _ _ ha4)) ?_ ?_⟩
        · rintro k z H5 hk ⟨sm5, on5⟩
          obtain ⟨e, he, hPe⟩ := L2.paired_get pa hk
          have ts5 := same_ts (sm14.trans sm5)
          refine ⟨rfl, _, rfl, _, rfl, y, z, d, e, rfl, Pr.mono _ _ _ _ ts5 hPd, Pr.mono _ _ _ _ ts5 hPe, _, rfl, ?_⟩
          rw [f2 d (List.mem_of_getElem? hd) e (List.mem_of_getElem? he)]
          exact iteF ⟨sm5, on5⟩
        · rintro H5 ⟨sm5, on5⟩
          refine ⟨Nat.zero_le _, fun e he => ⟨_, _, _, rfl, rfl, kept1 he on5, upd_same, _, rfl, iteF ⟨⟨_, rfl⟩, ?_⟩⟩⟩
          exact same_new (sm4.trans sm5) he
      · rintro σ H4 ⟨⟨s5, rfl⟩, sm4⟩
        exact ⟨_, rfl, Z H4 (sm13.trans sm4)⟩
    · rcases Z with rfl | ⟨c, hc, Z⟩
      · refine ⟨_, rfl, _, _, _, _, false, rfl, .ty "tuple", .base .non, kit_ty (by decide +kernel), false, rfl, iteT ⟨_, rfl, _, rfl, fun d hd => X H d (Same.refl H) hd⟩⟩
      · obtain ⟨a, vs, rfl, ha, pa⟩ := id hc
        have hvl := paired_len pa
        refine ⟨_, rfl, _, _, _, _, true, rfl, .ty "tuple", .base (.tup ha), kit_ty (by decide +kernel), true, rfl, iteF ?_⟩
        refine ⟨_, rfl, a, vs, rfl, .inr (SqT.of ha), _, rfl, _, _, rfl, rfl, rfl, _, rfl, ?_⟩
        rw [hvl, dec_int, Bool.beq_eq_decide_eq]
        rcases Z with z | ⟨z, p, r, rfl, hd⟩
        · rw [decide_eq_false z]
          exact iteT ⟨_, rfl, _, rfl, fun d hd => X H d (Same.refl H) hd⟩
        · rw [decide_eq_true z]
          refine iteF ?_
          refine ⟨_, rfl, a, rfl, ⟨_, SqT.of ha⟩, for_tup (K := K) (a := a) (xs := vs) (fun j σ H' => j = 0 ∧ σ = [some (.int n), some (.ref a), none, none, none, none, none] ∧ H' = H) ⟨rfl, rfl, rfl⟩ (fun j σ H' _ ⟨_, _, s⟩ => s ▸ SqT.of ha) ?_ ?_⟩
          · rintro j y σ H1 hj ⟨rfl, rfl, rfl⟩
            obtain ⟨q, hq, hPq⟩ := L2.paired_get pa hj
            cases hq
            refine ⟨_, rfl, _, rfl, n, y, p, rfl, hPq, _, rfl, ?_⟩
            rw [hd]
            exact iteT ⟨_, rfl, _, rfl, fun d hd => X _ d (Same.refl _) hd⟩
          · rintro σ H1 ⟨h0, _⟩
            rw [hvl] at h0
            cases h0
end
end Fs
/-! Flipsheets, defs 6: flips_apart, flips_between. -/
namespace Fs
open PySem L2 PySem.Spec PyProof.Rows
theorem BadV.same {n : Int} {H H' : Hp} {v : V} (b : BadV n H v) (s : Same H H') : BadV n H' v := by
  rcases b with e | ⟨c, hc, r⟩
  · exact .inl e
  · exact .inr ⟨c, Ct.mono _ _ _ _ (same_ts s) hc, r⟩
theorem Bad.same {C : Addr} {v : V} {H H1 : Hp} {E : XK} (b : Bad C v H E) (s : Same H H1) : Bad C v H1 E := fun H' d s' hd => b H' d (s.trans s') hd
/-- what is refused, and by what value -/
def BadA (n : Int) (H : Hp) (v u b : V) : Prop := (¬ (3 ≤ n ∧ n ≤ 7) ∧ b = .int n) ∨ (3 ≤ n ∧ n ≤ 7 ∧ BadV n H v ∧ b = v) ∨ (∃ m i : Nat, n = m ∧ Poly m ∧ i < sizeN m ∧ Ct H v (cutN m i) ∧ BadV n H u ∧ b = u)
section
variable {P : Program} {w : World} {K : PySem.W.Frag} {mg : Str → Option Value} {base : Heap} {C fI : Addr}
/-! ### flips_apart -/
abbrev sApart : Stmt := top 18
def spApart (C : Addr) : Sp := fun vs H Q E => ∃ (n : Int) (v u : V), vs = [.int n, v, u] ∧ ((∃ m i g : Nat, n = m ∧ Poly m ∧ i < sizeN m ∧ g < sizeN m ∧ Ct H v (cutN m i) ∧ Ct H u (cutN m g) ∧ ∀ H', Same H H' → Q (.int (dt m g i)) H') ∨ (∃ b, BadA n H v u b ∧ Bad C b H E))
theorem scApart : FnScope ["corners", "one", "other"] ["corners", "one", "other"] (defScope sApart) := ⟨rfl, rfl, rfl, by decide +kernel, rfl, by decide +kernel, by decide +kernel⟩
/-- the three checks -/
theorem three {tb : TS} {D : Ends} {σ : L2.St} {H : Hp} {E : XK} {n : Int} {v u : V} (h0 : σ[0]? = some (some (.int n))) (h1 : σ[1]? = some (some v)) (h2 : σ[2]? = some (some u))
    (Z : (∃ m i g : Nat, n = m ∧ Poly m ∧ i < sizeN m ∧ g < sizeN m ∧ Ct H v (cutN m i) ∧ Ct H u (cutN m g) ∧ ∀ H', Same H H' → tb D σ H') ∨ (∃ b, BadA n H v u b ∧ Bad C b H E)) :
    tSeq (tDrop (tCall (spNeedC C) [] E (tCons (tVar 0) tNil))) (tSeq (tDrop (tCall (spNeedV C) [] E (tCons (tVar 0) (tCons (tVar 1) tNil)))) (tSeq (tDrop (tCall (spNeedV C) [] E (tCons (tVar 0) (tCons (tVar 2) tNil)))) tb)) D σ H := by
  rcases Z with ⟨m, i, g, rfl, hp, hi, hg, hc, hd, Z⟩ | ⟨b, Z, X⟩
  · have hp3 := poly_le hp
    refine ⟨_, h0, m, rfl, .inl ⟨by omega, by omega, _, h0, _, h1, m, v, rfl, .inl ⟨m, i, rfl, hp, hi, hc, fun H1 sm1 => ?_⟩⟩⟩
    exact ⟨_, h0, _, h2, m, u, rfl, .inl ⟨m, g, rfl, hp, hg, Ct.mono _ _ _ _ (same_ts sm1) hd, fun H2 sm2 => Z H2 (sm1.trans sm2)⟩⟩
  · rcases Z with ⟨a, rfl⟩ | ⟨a, a', bv, rfl⟩ | ⟨m, i, rfl, hp, hi, hc, bv, rfl⟩
    · exact ⟨_, h0, n, rfl, .inr ⟨a, X⟩⟩
    · exact ⟨_, h0, n, rfl, .inl ⟨a, a', _, h0, _, h1, n, _, rfl, .inr ⟨bv, X⟩⟩⟩
    · have hp3 := poly_le hp
      refine ⟨_, h0, m, rfl, .inl ⟨by omega, by omega, _, h0, _, h1, m, v, rfl, .inl ⟨m, i, rfl, hp, hi, hc, fun H1 sm1 => ?_⟩⟩⟩
      exact ⟨_, h0, _, h2, m, _, rfl, .inr ⟨bv.same sm1, X.same sm1⟩⟩
theorem ok_apart {f : Addr} {fd : FuncData} (GC : Has P w K mg base (L2.CX P w) 3 "need_corners" ["corners"] (spNeedC C)) (GV : Has P w K mg base (L2.CX P w) 3 "need_cutting" ["corners", "value"] (spNeedV C))
    (GN : Has P w K mg base CX0 4 "nearer" ["corners", "goal"] (spNear P w)) (D : Df K mg "flips_apart" sApart f fd) : Has P w K mg base (L2.CX P w) 5 "flips_apart" ["corners", "one", "other"] (spApart C) := by
  refine has_of D (D.fn.okX scApart (fun vs H Q E h => ?_) (fun cdv A outer s H vs Q E hr h => ?_)) (D.fn.binds fun _ _ _ _ _ _ us hl => match us, hl with | [_, _, _], _ => rfl)
  · obtain ⟨n, v, u, rfl, _⟩ := h
    rfl
  · obtain ⟨n, v, u, rfl, Z⟩ := h
    have hu := hr.units
    have hx : Passes (L2.CX P w) (cxOf (L2.CX P w) P w K mg base ["corners", "one", "other"] "flips_apart" (defScope sApart) f cdv A outer s H E) E := passes_call (takes_of rfl rfl rfl rfl) fun _ _ _ _ h => h
    refine ⟨_, pss_cons (ps_expr (pe_has GC (hr.mono (by decide)) rfl hx (pa_cons (pv 0) pa_nil)))
      (pss_cons (ps_expr (pe_has GV (hr.mono (by decide)) rfl hx (pa_cons (pv 0) (pa_cons (pv 1) pa_nil))))
      (pss_cons (ps_expr (pe_has GV (hr.mono (by decide)) rfl hx (pa_cons (pv 0) (pa_cons (pv 2) pa_nil))))
      (pss_one (ps_ret (pe_ndgetP P w rfl rfl hu (pe_has GN hr rfl pass0 (pa_cons (pv 0) (pa_cons (pv 2) pa_nil))) (pv 1) (fun _ _ => rfl)))))), ?_⟩
    refine three rfl rfl rfl ?_
    rcases Z with ⟨m, i, g, rfl, hp, hi, hg, hc, hd, Z⟩ | ⟨b, Z, X⟩
    · refine .inl ⟨m, i, g, rfl, hp, hi, hg, hc, hd, fun H1 sm1 => ?_⟩
      refine ⟨_, rfl, _, rfl, m, g, u, rfl, hp, hg, Ct.mono _ _ _ _ (same_ts sm1) hd, fun H2 d sm2 _ nd => ⟨_, rfl, d, _, cutN m i, _, rfl, nd, Ct.mono _ _ _ _ (same_ts (sm1.trans sm2)) hc, found_lookup hp hg hi, ?_⟩⟩
      exact Z H2 (sm1.trans sm2)
    · exact .inr ⟨b, Z, X⟩
/-! ### flips_between -/
abbrev sBetw : Stmt := top 19
def spBetw (C : Addr) : Sp := fun vs H Q E => ∃ (n : Int) (v u : V), vs = [.int n, v, u] ∧ ((∃ m i g : Nat, n = m ∧ Poly m ∧ i < sizeN m ∧ g < sizeN m ∧ Ct H v (cutN m i) ∧ Ct H u (cutN m g) ∧ ∀ H' v', Same H H' → Ct H' v' (rowN m g 13 i) → Q v' H') ∨ (∃ b, BadA n H v u b ∧ Bad C b H E))
theorem scBetw : FnScope ["corners", "one", "other", "table", "here", "found", "good", "each"] ["corners", "one", "other"] (defScope sBetw) := ⟨rfl, rfl, rfl, by decide +kernel, rfl, by decide +kernel, by decide +kernel⟩
theorem ok_betw {f : Addr} {fd : FuncData} (GC : Has P w K mg base (L2.CX P w) 3 "need_corners" ["corners"] (spNeedC C)) (GV : Has P w K mg base (L2.CX P w) 3 "need_cutting" ["corners", "value"] (spNeedV C))
    (GN : Has P w K mg base CX0 4 "nearer" ["corners", "goal"] (spNear P w)) (GF : Has P w K mg base CX0 3 "flipped_cutting" ["corners", "diagonals", "diagonal"] spFlip) (D : Df K mg "flips_between" sBetw f fd) :
    Has P w K mg base (L2.CX P w) 5 "flips_between" ["corners", "one", "other"] (spBetw C) := by
  refine has_of D (D.fn.okX scBetw (fun vs H Q E h => ?_) (fun cdv A outer s H vs Q E hr h => ?_)) (D.fn.binds fun _ _ _ _ _ _ us hl => match us, hl with | [_, _, _], _ => rfl)
  · obtain ⟨n, v, u, rfl, _⟩ := h
    rfl
  · obtain ⟨n, v, u, rfl, Z⟩ := h
    have hu := hr.units
    have hx : Passes (L2.CX P w) (cxOf (L2.CX P w) P w K mg base ["corners", "one", "other", "table", "here", "found", "good", "each"] "flips_between" (defScope sBetw) f cdv A outer s H E) E := passes_call (takes_of rfl rfl rfl rfl) fun _ _ _ _ h => h
    refine ⟨_, pss_cons (ps_expr (pe_has GC (hr.mono (by decide)) rfl hx (pa_cons (pv 0) pa_nil)))
      (pss_cons (ps_expr (pe_has GV (hr.mono (by decide)) rfl hx (pa_cons (pv 0) (pa_cons (pv 1) pa_nil))))
      (pss_cons (ps_expr (pe_has GV (hr.mono (by decide)) rfl hx (pa_cons (pv 0) (pa_cons (pv 2) pa_nil))))
      (pss_cons (ps_set (i := 3) scBetw.nd rfl (.inr rfl) (pe_has GN hr rfl pass0 (pa_cons (pv 0) (pa_cons (pv 2) pa_nil))))
      (pss_cons (ps_set (i := 4) scBetw.nd rfl (.inr rfl) (pv 1))
      (pss_cons (ps_set (i := 5) scBetw.nd rfl (.inl rfl) (pe_tup pa_nil))
      (pss_cons (ps_while (passes_of rfl) (pt_cmpR (op_neC hu) (pv 4) (pv 2) (nomark _))
        (pss_cons (ps_setLc (i := 6) (own := [("each", 7)]) (g := gName 7) rfl scBetw.nd rfl rfl (sw_true rfl rfl rfl (by decide +kernel)) (pi_tup (pv 4)) (blkOk_by (N := ["corners", "one", "other", "table", "here", "found", "good", "each"]) (sc := defScope sBetw) (by decide +kernel))
          (fun _ _ _ _ _ => pg_name (i := 7) scBetw.nd rfl (Or.inl rfl)) (fun _ _ _ _ _ => pts_one (pt_cmpR op_lt (pe_ndgetP P w rfl rfl hu (pv 3) (pe_has GF (hr.mono (by decide)) rfl pass0 (pa_cons (pv 0) (pa_cons (pv 4) (pa_cons (pv 7) pa_nil)))) (fun _ _ => rfl)) (pe_ndgetP P w rfl rfl hu (pv 3) (pv 4) (fun _ _ => rfl)) (nomark _))) (fun _ _ _ _ _ => pv 7))
        (pss_cons (ps_set (i := 5) scBetw.nd rfl (.inl rfl) (pe_op op_catA (pv 5) (pe_tup (pa_cons (pe_ix ix_list (pv 6) pe_int (fun _ _ => rfl)) pa_nil))))
        (pss_one (ps_set (i := 4) scBetw.nd rfl (.inr rfl) (pe_has GF (hr.mono (by decide)) rfl pass0 (pa_cons (pv 0) (pa_cons (pv 4) (pa_cons (pe_ix ix_list (pv 6) pe_int (fun _ _ => rfl)) pa_nil)))))))))
      (pss_one (ps_ret (pv 5))))))))), ?_⟩
    refine three rfl rfl rfl ?_
    rcases Z.symm with ⟨b, Z, X⟩ | ⟨n, i0, g, rfl, hp, hi0, hg, hc, hd, Z⟩
    · exact .inr ⟨b, Z, X⟩
    refine .inl ⟨n, i0, g, rfl, hp, hi0, hg, hc, hd, fun H1 sm1 => ?_⟩
    refine ⟨_, rfl, _, rfl, n, g, u, rfl, hp, hg, Ct.mono _ _ _ _ (same_ts sm1) hd, fun H2 d sm2 _ nd2 => ⟨_, rfl, Nat.zero_le _, fun e he => ?_⟩⟩
    have sm12 := sm1.trans sm2
    have sm3 := same_new (o := .tup []) (Same.refl H2) he
    have sm13 := sm12.trans sm3
    have hnd := nd2.same sm3
    have hd3 := Ct.mono _ _ _ _ (same_ts sm13) hd
    have hc3 := Ct.mono _ _ _ _ (same_ts sm13) hc
    have hfe : Ct (upd H2 e (.tup [])) (.ref e) [] := ⟨e, [], rfl, upd_same, .nil⟩
    generalize upd H2 e (.tup []) = H3 at *
    refine ⟨fun m σ H' => ∃ (i : Nat) (r : List P2) (hv fv : V) (s6 : Option V), dt n g i < m ∧ σ = [some (.int n), some v, some u, some (.ref d), some hv, some fv, s6, none] ∧ i < sizeN n ∧ Same H3 H' ∧ Ct H' hv (cutN n i) ∧ Ct H' fv r ∧ r.length + m = 13 ∧ rowN n g 13 i0 = r ++ rowN n g m i,
      ⟨13, i0, [], v, .ref e, none, ?_, rfl, hi0, Same.refl H3, hc3, hfe, rfl, rfl⟩, ?_⟩
    · have := (fact_good hp hg hi0).2.1
      omega
    rintro m σ H4 ⟨i, r, hv, fv, s6, hm, rfl, hi, st, hhv, hfv, hrm, hrow⟩
    have hlk := found_lookup hp hg hi
    have nd1 := hnd.same st
    refine ⟨_, rfl, _, rfl, cutN n i, cutN n g, hhv, Ct.mono _ _ _ _ (same_ts st) hd3, _, rfl, ite2 (fun x => ?_) (fun x => ?_)⟩
    · have hne : i ≠ g := fun z => (of_decide_eq_true x) (by rw [z])
      obtain ⟨k, FG⟩ := first_good hp hg hi hne
      obtain ⟨c, hgd, _⟩ := FG.fst
      obtain ⟨m, rfl⟩ : ∃ m', m = m' + 1 := ⟨m - 1, by omega⟩
      have hnb := fact_nb hp hi
      obtain ⟨wa, cvs, rfl, hca, pca⟩ := id hhv
      have hp3 := poly_le hp
      have hlen4 : (cutN n i).length ≤ 4 := by omega
      refine ⟨fun σ' H' => ∃ (i : Nat) (r : List P2) (hv fv : V) (s6 : Option V), dt n g i < m ∧ σ' = [some (.int n), some v, some u, some (.ref d), some hv, some fv, s6, none] ∧ i < sizeN n ∧ Same H3 H' ∧ Ct H' hv (cutN n i) ∧ Ct H' fv r ∧ r.length + m = 13 ∧ rowN n g 13 i0 = r ++ rowN n g m i,
        fun σ' H' q => ⟨m, Nat.lt_succ_self _, q⟩, ?_⟩
      refine ⟨_, rfl, wa, rfl, ⟨_, SqT.of hca⟩, fun D hD => lc_tup (K := K) (a := wa) (xs := cvs) (fun j H' => Same H4 H' ∧ LsOf Pr H' D (gdN n g i j)) ⟨same_new (Same.refl H4) hD, LsOf.new⟩ (fun j H' _ s => SqT.of (s.1 _ _ hca)) ?_ ?_⟩
      · rintro j y H5 hj ⟨sm5, ls5⟩
        obtain ⟨dg, hdg, hPd⟩ := L2.paired_get pca hj
        have hPd5 := Pr.mono _ _ _ _ (same_ts sm5) hPd
        have hC5 := Ct.mono _ _ _ _ (same_ts sm5) hhv
        have hjl : j < (cutN n i).length := (List.getElem?_eq_some_iff.mp hdg).1
        have edg : (cutN n i).getD j (0, 0) = dg := by rw [List.getD_eq_getElem?_getD, hdg]; rfl
        obtain ⟨fok, ffl⟩ := fact_flip hp hi hjl
        have hgs := gdN_succ n g i j
        obtain ⟨nj, hnj⟩ : ∃ nj, (nbN n i)[j]? = some nj := ⟨_, List.getElem?_eq_getElem (by omega)⟩
        have enj : (nbN n i).getD j 0 = nj := by rw [List.getD_eq_getElem?_getD, hnj]; rfl
        rw [edg] at fok
        rw [edg, enj] at ffl hgs
        have hnjl : nj < sizeN n := hnb.2.2 nj (List.mem_of_getElem? hnj)
        have nd5 := nd1.same sm5
        refine ⟨rfl, _, rfl, _, rfl, _, rfl, _, rfl, n, _, y, cutN n i, dg, rfl, by omega, hp3.2, hC5, hPd5, fok, by omega, fun H6 r' sm6 hr6 => ?_⟩
        rw [ffl] at hr6
        have nd6 := nd5.same sm6
        refine ⟨d, _, cutN n nj, _, rfl, nd6, hr6, found_lookup hp hg hnjl, _, rfl, _, rfl, d, _, cutN n i, _, rfl, nd6, Ct.mono _ _ _ _ (same_ts sm6) hC5, hlk, _, _, rfl, rfl, _, rfl, ite2 (fun w1 => ?_) (fun w1 => ?_)⟩
        · obtain ⟨ws, hws, pws⟩ := ls5.same Pr.mono sm6
          have w2 : decide (dt n g nj < dt n g i) = true := by
            have := of_decide_eq_true w1
            exact (decide_eq_true (by omega))
          refine ⟨_, rfl, _, hws, ?_, same_put (sm5.trans sm6) hD, ?_⟩
          · have := gdN_len n g i j
            rw [paired_len pws, sizeLine_eq]
            omega
          · rw [hgs, if_pos w2]
            exact LsOf.snoc Pr.mono hws pws (Pr.mono _ _ _ _ (same_ts sm6) hPd5)
        · have w2 : ¬ decide (dt n g nj < dt n g i) = true := fun z => w1 (by
            have := of_decide_eq_true z
            exact decide_eq_true (by omega))
          refine ⟨sm5.trans sm6, ?_⟩
          rw [hgs, if_neg w2, List.append_nil]
          exact ls5.same Pr.mono sm6
      · rintro H5 ⟨sm5, ls5⟩
        rw [paired_len pca, hgd] at ls5
        obtain ⟨gvs, hgv, pgv⟩ := id ls5
        obtain ⟨u5, gvs', rfl, hu5⟩ : ∃ u5 gvs', gvs = u5 :: gvs' ∧ Pr H5 u5 ((cutN n i).getD k (0, 0)) := by
          cases pgv with
          | cons r t => exact ⟨_, _, rfl, r⟩
        refine ⟨_, rfl, _, rfl, D, _, _, u5, rfl, rfl, SqL.of hgv, at_of (j := 0) rfl rfl, (by show 1 ≤ sizeLine; decide), fun t6 ht6 => ?_⟩
        have sm6 := same_new (o := .tup [u5]) (Same.refl H5) ht6
        refine catA_one hfv (same_ts (sm5.trans sm6)) upd_same (Pr.mono _ _ _ _ (same_ts sm6) hu5) (by omega) fun fv' H7 sm7 hfv7 => ?_
        have sm67 := sm6.trans sm7
        have sm57 := sm5.trans sm67
        obtain ⟨fok, ffl⟩ := fact_flip hp hi FG.lt
        refine ⟨_, rfl, _, rfl, _, rfl, D, _, _, u5, rfl, rfl, SqL.of (sm67 _ _ hgv), at_of (j := 0) rfl rfl, n, _, u5, cutN n i, _, rfl, by omega, hp3.2, Ct.mono _ _ _ _ (same_ts sm57) hhv, Pr.mono _ _ _ _ (same_ts sm67) hu5, fok, by omega, fun H8 hv8 sm8 hhv8 => ?_⟩
        rw [ffl] at hhv8
        refine ⟨_, r ++ [_], hv8, fv', _, ?_, rfl, FG.nb, st.trans (sm57.trans sm8), hhv8, Ct.mono _ _ _ _ (same_ts sm8) hfv7, ?_, ?_⟩
        · have := FG.near
          omega
        · rw [List.length_append, List.length_singleton]
          omega
        · rw [hrow, FG.row, List.append_assoc]
          rfl
    · have hieq : i = g := cutN_inj hp hi hg (Classical.byContradiction fun z => x (decide_eq_true z))
      have h0 : dt n g i = 0 := (fact_good hp hg hi).1.mpr hieq
      obtain ⟨m, rfl⟩ : ∃ m', m = m' + 1 := ⟨m - 1, by omega⟩
      rw [row_end h0, List.append_nil] at hrow
      rw [← hrow] at hfv
      exact ⟨_, rfl, Z _ _ (sm13.trans st) hfv⟩
end
end Fs
/-! Flipsheets, the law's draws: _law_mixed, _law_begin, _law_draw, _law_of. -/
namespace Fs
open PySem L2 PySem.Spec PyProof.Rows
/-- the state's entries -/
def stK (pc pl : Addr) (a : Int) : List (Key × V) := [(.inr "cells", .ref pc), (.inr "lefts", .ref pl), (.inr "at", .int a)]
theorem k1 : ¬ ((Sum.inr "cells" : Key) = .inr "lefts") := by decide
theorem k2 : ¬ ((Sum.inr "cells" : Key) = .inr "at") := by decide
theorem k3 : ¬ ((Sum.inr "lefts" : Key) = .inr "at") := by decide
theorem stK_cells (pc pl : Addr) (a : Int) : valV (stK pc pl a) (.inr "cells") = some (.ref pc) := valV_pos rfl
theorem stK_lefts (pc pl : Addr) (a : Int) : valV (stK pc pl a) (.inr "lefts") = some (.ref pl) := (valV_neg k1).trans (valV_pos rfl)
theorem stK_at (pc pl : Addr) (a : Int) : valV (stK pc pl a) (.inr "at") = some (.int a) := (valV_neg k2).trans ((valV_neg k3).trans (valV_pos rfl))
theorem stK_put (pc pl : Addr) (a b : Int) : putK (stK pc pl a) (.inr "at") (.int b) = stK pc pl b := by
  have h1 : ¬ (Str.ofString "cells" = Str.ofString "at") := fun z => k2 (congrArg Sum.inr z)
  have h2 : ¬ (Str.ofString "lefts" = Str.ofString "at") := fun z => k3 (congrArg Sum.inr z)
  unfold putK stK
  simp [h1, h2]
/-- the state of the draws -/
structure StOk (H : Hp) (st pc pl : Addr) (a : Int) : Prop where
  d : H st = some (.dK (stK pc pl a))
  c : ∃ cs : List Int, H pc = some (.lst (cs.map V.int)) ∧ cs ≠ [] ∧ cs.length ≤ 63
  l : ∃ cs ls : List Int, H pc = some (.lst (cs.map V.int)) ∧ H pl = some (.lst (ls.map V.int)) ∧ cs.length = ls.length
  ne : pc ≠ pl
theorem StOk.same {H H' : Hp} {st pc pl : Addr} {a : Int} (s : StOk H st pc pl a) (k : Same H H') : StOk H' st pc pl a :=
  ⟨k _ _ s.d, let ⟨cs, e, r⟩ := s.c; ⟨cs, k _ _ e, r⟩, let ⟨cs, ls, e1, e2, r⟩ := s.l; ⟨cs, ls, k _ _ e1, k _ _ e2, r⟩, s.ne⟩
/-- all but the state stays -/
def Drw (st pl : Addr) (H H' : Hp) : Prop := ∀ b o, b ≠ st → b ≠ pl → H b = some o → H' b = some o
theorem Drw.tr {st pl : Addr} {H H1 H2 : Hp} (a : Drw st pl H H1) (b : Drw st pl H1 H2) : Drw st pl H H2 := fun c o n m h => b c o n m (a c o n m h)
theorem Drw.of {st pl : Addr} {H H' : Hp} (s : Same H H') : Drw st pl H H' := fun b o _ _ h => s b o h
theorem Drw.ts {st pc pl : Addr} {a : Int} {H H' : Hp} (s : StOk H st pc pl a) (d : Drw st pl H H') : TSm H H' := fun b xs h => by
  obtain ⟨_, ls, _, e, _⟩ := s.l
  exact d b _ (fun z => by rw [z, s.d] at h; cases h) (fun z => by rw [z, e] at h; cases h) h
section
variable
  {P : Program}
  {w : World} {K : PySem.W.Frag} {mg : Str → Option Value} {base : Heap}
/-! ### _law_mixed -/
abbrev sMix : Stmt := top 21
def spMix : Sp := fun vs H Q _ => ∃ c k : Int, vs = [.int c, .int k] ∧ 0 ≤ k ∧ k ≤ 1000000 ∧ ∀ r : Int, 0 ≤ r → r < 2147483629 → Q (.int r) H
theorem scMix : FnScope ["_law_cell", "_law_k"] ["_law_cell", "_law_k"] (defScope sMix) := ⟨rfl, rfl, rfl, by decide +kernel, rfl, by decide +kernel, by decide +kernel⟩
theorem ok_mix {f : Addr} {fd : FuncData} (B : Blt mg) (D : Df K mg "_law_mixed" sMix f fd) : Has P w K mg base CX0 1 "_law_mixed" ["_law_cell", "_law_k"] spMix := by
  refine has_of D (D.fn.ok scMix (fun vs H Q E h => ?_) (fun cdv A outer s H vs Q E hr h => ?_)) (D.fn.binds fun _ _ _ _ _ _ us hl => match us, hl with | [_, _], _ => rfl)
  · obtain ⟨c, k, rfl, _⟩ := h
    rfl
  · obtain ⟨c, k, rfl, hk0, hk1, Z⟩ := h
    refine ⟨_, pss_cons (ps_set (i := 0) scMix.nd rfl (.inl rfl) (pe_op op_mod (pe_callTy call_int1 (by rfl) B.int PyProof.Rows.boot_int (pa_cons (pv 0) pa_nil)) pe_int))
      (pss_one (ps_ret (pe_op op_mod (pe_op op_mul (pe_op op_mod (pe_op op_add (pe_op op_add (pe_op op_mul (pv 0) (pe_op op_add pe_int (pe_op op_mul (pe_op op_mul pe_int (pv 1)) (pv 1)))) (pe_op op_mul pe_int (pv 1))) pe_int) pe_int) pe_int) pe_int))), ?_⟩
    refine ⟨_, rfl, .inl ⟨c, rfl, _, _, rfl, rfl, (show (0 : Int) < 2147483647 by decide), ?_⟩⟩
    have h0 : 0 ≤ c % 2147483647 := Int.emod_nonneg _ (by decide)
    have h1 : c % 2147483647 < 2147483647 := Int.emod_lt_of_pos _ (by decide)
    refine ⟨_, rfl, _, rfl, _, _, rfl, rfl, .inl ⟨by decide, by decide⟩, _, rfl, _, _, rfl, rfl, .inl ⟨by omega, by omega⟩, _, _, rfl, rfl, _, _, rfl, rfl, .inl ⟨by omega, by omega⟩, _, rfl, _, _, rfl, rfl, .inl ⟨by decide, by decide⟩, _, _, rfl, rfl, _, _, rfl, rfl,
      _, _, rfl, rfl, (show (0 : Int) < 2147483647 by decide), _, _, rfl, rfl, .inr ⟨by decide, by decide⟩, _, _, rfl, rfl, (show (0 : Int) < 2147483629 by decide), ?_⟩
    exact Z _ (Int.emod_nonneg _ (by decide)) (Int.emod_lt_of_pos _ (by decide))
/-! ### _law_begin -/
abbrev sBegin : Stmt := top 22
def spBegin (K : PySem.W.Frag) : Sp := fun vs H Q _ => ∃ (a : Addr) (ns : List Int), vs = [.ref a] ∧ SqL K H a (ns.map V.int) ∧ ns.length ≤ 63 ∧ ∀ H' st pc pl, Same H H' → StOk H' st pc pl 0 → Q (.ref st) H'
theorem scBegin : FnScope ["_law_script", "_law_cells_so", "_law_cell"] ["_law_script"] (defScope sBegin) := ⟨rfl, rfl, rfl, by decide +kernel, rfl, by decide +kernel, by decide +kernel⟩
theorem eqvAll_ints_nil (ns : List Int) : PyData.eqv (.list (ns.map dI)) (.list []) = ns.isEmpty := by
  cases ns with
  | nil => simp [PyData.eqv, PyData.eqvAll]
  | cons n ns => simp [PyData.eqv, PyData.eqvAll]
theorem plainAll_ints : ∀ ns : List Int, PyData.plainAll (ns.map dI) = true
  | [] => by simp [PyData.plainAll]
  | n :: ns => by rw [List.map_cons, PyData.plainAll, plainAll_ints ns]; simp [dI, PyData.plain]
theorem depthAll_ints : ∀ ns : List Int, PyData.depthAll (ns.map dI) = 0
  | [] => by (simp [PyData.depthAll])
  | n :: ns => by rw [List.map_cons, PyData.depthAll, depthAll_ints ns]; simp [dI, PyData.depth]
theorem ok_begin {f : Addr} {fd : FuncData} (B : Blt mg) (D : Df K mg "_law_begin" sBegin f fd) : Has P w K mg base CX0 1 "_law_begin" ["_law_script"] (spBegin K) := by
  refine has_of D (D.fn.ok scBegin (fun vs H Q E h => ?_) (fun cdv A outer s H vs Q E hr h => ?_)) (D.fn.binds fun _ _ _ _ _ _ us hl => match us, hl with | [_], _ => rfl)
  · obtain ⟨a, ns, rfl, _⟩ := h
    rfl
  · obtain ⟨a, ns, rfl, ha, hlen, Z⟩ := h
    have hu := hr.units
    refine ⟨_, pss_cons (ps_set (i := 1) scBegin.nd rfl (.inl rfl) (pe_ifExp (pt_cmpR (op_neQ hu) (pv 0) (pe_lst pa_nil) (nomark _)) (pe_callTy call_list_of (by rfl) B.list PyProof.Rows.boot_list (pa_cons (pv 0) pa_nil)) (pe_lst (pa_cons pe_int pa_nil))))
      (pss_one (ps_ret (pe_disp (pps_cons pe_str (pv 1) (pps_cons pe_str (pe_lc (own := [("_law_cell", 2)]) (g := gName 2) rfl scBegin.nd (pi_list (pv 1)) (blkOk_by (N := ["_law_script", "_law_cells_so", "_law_cell"]) (sc := defScope sBegin) (by decide +kernel))
          (fun _ _ _ _ _ => pg_name (i := 2) scBegin.nd rfl (Or.inl rfl)) (fun _ _ _ _ _ => pts_nil) (fun _ _ _ _ _ => pe_ifExp (pt_cmpR op_ge (pv 2) (pe_op op_pow pe_int pe_int) (nomark _)) (pv 2) pe_int)) (pps_cons pe_str pe_int pps_nil))) (by rfl) (by rfl) (fun z => by cases z) (by decide)))), ?_⟩
    have rest : ∀ H1 pc (cs : List Int), Same H H1 → H1 pc = some (.lst (cs.map V.int)) → cs ≠ [] → cs.length ≤ 63 → tRet (tDisp [(tC (.str "cells"), tVar 1), (tC (.str "lefts"), tLc (iList K (tVar 1)) (gName 2) tYes (tIf (tTest (tOp (rI0 fun i j => .bl (decide (j ≤ i))) (tVar 2) (tOp (rI CPow fun i j => .int (i ^ j.toNat)) (tC (.int 10)) (tC (.int 18))))) (tVar 2) (tC (.int 0))) [2]), (tC (.str "at"), tC (.int 0))]) { nx := fun _ H' => Q .non H', rt := Q } [some (.ref a), some (.ref pc), none] H1 := by
      intro H1 pc cs sm1 hpc hne h63 p hp
      have sm2 := same_new (o := .dK []) (Same.refl H1) hp
      have hpc2 := sm2 _ _ hpc
      have hp2 : (upd H1 p (.dK [])) p = some (.dK []) := upd_same
      generalize upd H1 p (.dK []) = H2 at *
      refine ⟨_, rfl, _, rfl, pc, rfl, ⟨_, SqL.of hpc2⟩, fun D hD => lc_list (K := K) (a := pc) (xs := cs.map V.int) (fun i H' => Same H2 H' ∧ ∃ ls : List Int, H' D = some (.lst (ls.map V.int)) ∧ ls.length = i) ⟨same_new (Same.refl H2) hD, [], upd_same, rfl⟩ (fun i H' _ s => SqL.of (s.1 _ _ hpc2)) ?_ ?_⟩
      · rintro i y H3 hi ⟨sm3, ls, hls, hl⟩
        have hil := (List.getElem?_eq_some_iff.mp hi).1
        rw [List.length_map] at hil
        rw [List.getElem?_map] at hi
        obtain ⟨c, hc, rfl⟩ := Option.map_eq_some_iff.mp hi
        refine ⟨rfl, _, rfl, _, _, rfl, rfl, ⟨by decide, by decide, by decide⟩, _, _, rfl, rfl, _, rfl, ?_⟩
        have app : ∀ z : Int, ∃ acc, H3 D = some (.lst acc) ∧ acc.length < sizeLine ∧ Same H2 (upd H3 D (.lst (acc ++ [V.int z]))) ∧ ∃ ls : List Int, (upd H3 D (.lst (acc ++ [V.int z]))) D = some (.lst (ls.map V.int)) ∧ ls.length = i + 1 := fun z =>
          ⟨_, hls, by rw [List.length_map, sizeLine_eq]; omega, same_put sm3 hD, ls ++ [z], by rw [upd_same, List.map_append]; rfl, by rw [List.length_append, hl]; rfl⟩
        exact ite2 (fun _ => ⟨_, rfl, app c⟩) (fun _ => app 0)
      · rintro H3 ⟨sm3, ls, hls, hl⟩
        rw [List.length_map] at hl
        refine ⟨sm3 _ _ hp2, [(.inr "cells", .ref pc), (.inr "lefts", .ref D), (.inr "at", .int 0)], rfl, by show 3 ≤ 15; decide, ?_⟩
        have hpH : H p = none := sm1.free hp
        have hDp : D ≠ p := fun z => by rw [z, hp2] at hD; cases hD
        have hpcp : pc ≠ p := fun z => by rw [z, hp] at hpc; cases hpc
        have hDc : pc ≠ D := fun z => by rw [z, hD] at hpc2; cases hpc2
        have e1 : upd H3 p (.dK (stK pc D 0)) pc = some (.lst (cs.map V.int)) := by rw [upd_ne hpcp]; exact sm3 _ _ hpc2
        have e2 : upd H3 p (.dK (stK pc D 0)) D = some (.lst (ls.map V.int)) := by rw [upd_ne hDp]; exact hls
        exact Z _ p pc D (same_put (sm1.trans (sm2.trans sm3)) hpH) ⟨upd_same, ⟨cs, e1, hne, h63⟩, ⟨cs, ls, e1, e2, hl.symm⟩, hDc⟩
    refine ⟨_, rfl, Nat.zero_le _, fun e he => ?_⟩
    have sme := same_new (o := .lst []) (Same.refl H) he
    have ha' := sme.seq ha
    refine ⟨.list (ns.map dI), .list [], .lst ha' (dpall_ints ns), .lst (SqL.of upd_same) .nil, ?_, by simp [PyData.plain, PyData.plainAll], ?_, _, rfl, ?_⟩
    · simp only [PyData.plain]; exact plainAll_ints ns
    · simp only [PyData.depth]; have := depthAll_ints ns; omega
    · rw [eqvAll_ints_nil]
      cases ns with
      | nil =>
        refine iteF ⟨(by show 1 ≤ sizeLine; decide), fun q hq => ?_⟩
        exact rest _ q [0] (same_new sme hq) upd_same (by intro z; cases z) (by decide)
      | cons n ns =>
        refine iteT ⟨_, rfl, a, _, rfl, .inl ha', fun q hq => ?_⟩
        exact rest _ q (n :: ns) (same_new sme hq) upd_same (by intro z; cases z) hlen
end
end Fs
/-! Flipsheets, the law's draws 2: _law_draw, _law_of. -/
namespace Fs
open PySem L2 PySem.Spec PyProof.Rows
section
variable {H : Hp} {st pc pl : Addr} {a : Int}
theorem StOk.gAt (s : StOk H st pc pl a) : DGet H st (.str "at") (some (.int a)) := by
  have z := DGet.k (k := .inr "at") s.d
  rw [stK_at] at z
  exact z
theorem StOk.gCells (s : StOk H st pc pl a) : DGet H st (.str "cells") (some (.ref pc)) := by
  have z := DGet.k (k := .inr "cells") s.d
  rw [stK_cells] at z
  exact z
theorem StOk.gLefts (s : StOk H st pc pl a) : DGet H st (.str "lefts") (some (.ref pl)) := by
  have z := DGet.k (k := .inr "lefts") s.d
  rw [stK_lefts] at z
  exact z
theorem StOk.pAt (s : StOk H st pc pl a) (b : Int) : DPut H st (.str "at") (.int b) (upd H st (.dK (stK pc pl b))) := by
  have z := DPut.k (k := .inr "at") (v := .int b) s.d (show (stK pc pl a).length < sizeLine by rw [sizeLine_eq]; exact (by decide : 3 < 16777216))
  rw [stK_put] at z
  exact z
theorem StOk.put (s : StOk H st pc pl a) (b : Int) : StOk (upd H st (.dK (stK pc pl b))) st pc pl b := by
  obtain ⟨cs, ls, e1, e2, e3⟩ := s.l
  obtain ⟨cs', e1', r⟩ := s.c
  have n1 : pc ≠ st := fun z => by rw [z, s.d] at e1; cases e1
  have n2 : pl ≠ st := fun z => by rw [z, s.d] at e2; cases e2
  exact ⟨upd_same, ⟨cs', by rw [upd_ne n1]; exact e1', r⟩, ⟨cs, ls, by rw [upd_ne n1]; exact e1, by rw [upd_ne n2]; exact e2, e3⟩, s.ne⟩
end
section
variable
  {P : Program}
  {w : World} {K : PySem.W.Frag} {mg : Str → Option Value} {base : Heap}
abbrev sDraw : Stmt := top 23
def spDraw : Sp := fun vs H Q _ => ∃ (st pc pl : Addr) (a lim : Int), vs = [.ref st, .int lim] ∧ StOk H st pc pl a ∧ 0 ≤ a ∧ a ≤ 1000 ∧ 0 < lim ∧ lim ≤ 1000 ∧ ∀ (r : Int) H', 0 ≤ r → r < lim → StOk H' st pc pl (a + 1) → Drw st pl H H' → Q (.int r) H'
theorem scDraw : FnScope ["_law_state", "_law_limit", "_law_at", "_law_place", "_law_left", "_law_number"] ["_law_state", "_law_limit"] (defScope sDraw) := ⟨rfl, rfl, rfl, by decide +kernel, rfl, by decide +kernel, by decide +kernel⟩
theorem ok_draw {f : Addr} {fd : FuncData} (B : Blt mg) (GM : Has P w K mg base CX0 1 "_law_mixed" ["_law_cell", "_law_k"] spMix) (D : Df K mg "_law_draw" sDraw f fd) : Has P w K mg base CX0 2 "_law_draw" ["_law_state", "_law_limit"] spDraw := by
  refine has_of D (D.fn.ok scDraw (fun vs H Q E h => ?_) (fun cdv A outer s H vs Q E hr h => ?_)) (D.fn.binds fun _ _ _ _ _ _ us hl => match us, hl with | [_, _], _ => rfl)
  · obtain ⟨st, pc, pl, a, lim, rfl, _⟩ := h
    rfl
  · obtain ⟨st, pc, pl, a, lim, rfl, so, ha0, ha1, hl0, hl1, Z⟩ := h
    have hu := hr.units
    have hu1 : (A.deeper (envOfC "_law_draw" (defScope sDraw) s.heap.objs.size f cdv)).units + 1 < cLine := by omega
    refine ⟨_, pss_cons (ps_set (i := 2) scDraw.nd rfl (.inl rfl) (pe_dget hu1 (pv 0) pe_str (fun _ _ => rfl)))
      (pss_cons (ps_dput hu1 (pv 0) pe_str (pe_op op_add (pv 2) pe_int) rfl)
      (pss_cons (ps_set (i := 3) scDraw.nd rfl (.inl rfl) (pe_op op_mod (pe_callTy call_int1 (by rfl) B.int PyProof.Rows.boot_int (pa_cons (pv 2) pa_nil)) (pe_callB call_len_seq (by rfl) B.len PySem.boot_len (pa_cons (pe_dget hu1 (pv 0) pe_str (fun _ _ => rfl)) pa_nil))))
      (pss_cons (ps_set (i := 4) scDraw.nd rfl (.inl rfl) (pe_ix ix_list (pe_dget hu1 (pv 0) pe_str (fun _ _ => rfl)) (pv 3) (fun _ _ => rfl)))
      (pss_cons (ps_if (pt_cmpR op_gt (pv 4) pe_int (nomark _))
        (pss_cons (ps_asg (pe_op op_fdiv (pv 4) (pv 1)) (pg_sub (pe_dget hu1 (pv 0) pe_str (fun _ _ => rfl)) (pv 3) set_list))
        (pss_one (ps_ret (pe_op op_mod (pe_callTy call_int1 (by rfl) B.int PyProof.Rows.boot_int (pa_cons (pv 4) pa_nil)) (pv 1))))) pss_nil)
      (pss_cons (ps_set (i := 5) scDraw.nd rfl (.inl rfl) (pe_has GM hr rfl pass0 (pa_cons (pe_has GM hr rfl pass0 (pa_cons (pe_ix ix_list (pe_dget hu1 (pv 0) pe_str (fun _ _ => rfl)) (pv 3) (fun _ _ => rfl)) (pa_cons (pv 2) pa_nil))) (pa_cons (pe_op op_add pe_int (pv 2)) pa_nil))))
      (pss_one (ps_ret (pe_op op_mod (pe_op op_fdiv (pe_callTy call_int1 (by rfl) B.int PyProof.Rows.boot_int (pa_cons (pe_op op_add (pe_op op_mul (pv 5) pe_int) (pe_has GM hr rfl pass0 (pa_cons (pv 5) (pa_cons (pe_op op_add pe_int (pv 2)) pa_nil)))) pa_nil)) pe_int) (pv 1))))))))), ?_⟩
    refine ⟨_, rfl, st, _, rfl, so.gAt, ?_⟩
    refine ⟨_, rfl, _, _, rfl, rfl, _, rfl, st, _, rfl, so.pAt _, ?_⟩
    have so1 := so.put (a + 1)
    have dr1 : Drw st pl H (upd H st (.dK (stK pc pl (a + 1)))) := fun b o n _ h => by rw [upd_ne n]; exact h
    generalize upd H st (.dK (stK pc pl (a + 1))) = H1 at *
    obtain ⟨cs, ls, hpc, hpl, hlen⟩ := so1.l
    have hcl : 0 < cs.length := by
      obtain ⟨cs', e, r, _⟩ := so1.c
      rw [hpc] at e
      have e' : (cs.map V.int).length = (cs'.map V.int).length := by
        rw [HO.lst.inj (Option.some.inj e)]
      rw [List.length_map, List.length_map] at e'
      have := List.length_pos_iff.mpr r
      omega
    refine ⟨_, rfl, .inl ⟨a, rfl, _, rfl, st, _, rfl, so1.gCells, pc, _, rfl, .inl (SqL.of hpc), _, _, rfl, rfl, (by rw [List.length_map]; show (0 : Int) < _; omega), ?_⟩⟩
    rw [List.length_map]
    have hm0 : 0 ≤ a % (cs.length : Int) := Int.emod_nonneg _ (by omega)
    have hm1 : a % (cs.length : Int) < cs.length := Int.emod_lt_of_pos _ (by omega)
    obtain ⟨j, hj⟩ : ∃ j : Nat, a % (cs.length : Int) = j := ⟨(a % (cs.length : Int)).toNat, by omega⟩
    have hjc : j < cs.length := by omega
    obtain ⟨c, hc⟩ : ∃ c, cs[j]? = some c := ⟨_, List.getElem?_eq_getElem hjc⟩
    obtain ⟨l, hl⟩ : ∃ l, ls[j]? = some l := ⟨_, List.getElem?_eq_getElem (by omega)⟩
    have hc' : (cs.map V.int)[j]? = some (.int c) := by rw [List.getElem?_map, hc]; rfl
    have ae : ∀ {ys : List V} {v : V}, ys[j]? = some v → atI ys (a % (cs.length : Int)) = some v := fun e => by rw [hj]; exact atI_nat e
    have hl' : (ls.map V.int)[j]? = some (.int l) := by rw [List.getElem?_map, hl]; rfl
    refine ⟨_, rfl, st, _, rfl, so1.gLefts, _, rfl, pl, _, _, _, rfl, rfl, SqL.of hpl, ae hl', ?_⟩
    refine ⟨_, rfl, _, _, rfl, rfl, _, rfl, ite2 (fun x => ?_) (fun x => ?_)⟩
    · refine ⟨_, rfl, _, rfl, _, _, rfl, rfl, ⟨hl0, by omega⟩, _, rfl, st, _, rfl, so1.gLefts, _, rfl, pl, _, _, j, rfl, rfl, hpl, ?_, ?_⟩
      · show ixN _ (a % (cs.length : Int)) = some j
        rw [hj]
        rw [List.length_map]
        unfold ixN
        rw [(if_pos (by omega)), if_pos (by omega)]
        rfl
      · refine ⟨_, rfl, .inl ⟨l, rfl, _, rfl, _, _, rfl, rfl, hl0, ?_⟩⟩
        have n1 : st ≠ pl := fun z => by rw [z] at so1; rw [so1.d] at hpl; cases hpl
        refine Z _ _ (Int.emod_nonneg _ (by omega)) (Int.emod_lt_of_pos _ hl0) ⟨by rw [upd_ne n1]; exact so1.d, ?_, ?_, so1.ne⟩ ?_
        · obtain ⟨cs', e, r⟩ := so1.c
          exact ⟨cs', by rw [upd_ne so1.ne]; exact e, r⟩
        · exact ⟨cs, ls.set j (l / lim), by rw [upd_ne so1.ne]; exact hpc, by rw [upd_same, List.map_set], by rw [List.length_set]; exact hlen⟩
        · exact dr1.tr fun b o _ n h => by rw [upd_ne n]; exact h
    · refine ⟨_, rfl, st, _, rfl, so1.gCells, _, rfl, pc, _, _, _, rfl, rfl, SqL.of hpc, ae hc', _, rfl, c, a, rfl, ha0, by omega, fun r0 _ _ => ?_⟩
      refine ⟨_, rfl, _, _, rfl, rfl, r0, 40 + a, rfl, by omega, by omega, fun r1 h1 h2 => ?_⟩
      refine ⟨_, rfl, _, _, rfl, rfl, .inr ⟨by decide, by decide⟩, _, rfl, _, rfl, _, _, rfl, rfl, r1, 7 + a, rfl, by omega, by omega, fun r2 h3 h4 => ⟨_, _, rfl, rfl, .inl ⟨_, rfl, ?_⟩⟩⟩
      refine ⟨_, _, rfl, rfl, ⟨by decide, by decide⟩, _, rfl, _, _, rfl, rfl, hl0, ?_⟩
      exact Z _ _ (Int.emod_nonneg _ (by omega)) (Int.emod_lt_of_pos _ hl0) so1 dr1
/-! ### _law_of -/
abbrev sOf : Stmt := top 24
def spOf : Sp := fun vs H Q _ => ∃ (st pc pl p : Addr) (a : Int) (bs : List (List P2)), vs = [.ref st, .ref p] ∧ StOk H st pc pl a ∧ 0 ≤ a ∧ a ≤ 1000 ∧ LsOf Ct H p bs ∧ p ≠ st ∧ p ≠ pl ∧ 0 < bs.length ∧ bs.length ≤ 1000 ∧
  ∀ (i : Nat) b v H', bs[i]? = some b → Ct H' v b → StOk H' st pc pl (a + 1) → Drw st pl H H' → Q v H'
theorem scOf : FnScope ["_law_state", "_law_some"] ["_law_state", "_law_some"] (defScope sOf) := ⟨rfl, rfl, rfl, by decide +kernel, rfl, by decide +kernel, by decide +kernel⟩
theorem ok_of {f : Addr} {fd : FuncData} (B : Blt mg) (GD : Has P w K mg base CX0 2 "_law_draw" ["_law_state", "_law_limit"] spDraw) (D : Df K mg "_law_of" sOf f fd) : Has P w K mg base CX0 3 "_law_of" ["_law_state", "_law_some"] spOf := by
  refine has_of D (D.fn.ok scOf (fun vs H Q E h => ?_) (fun cdv A outer s H vs Q E hr h => ?_)) (D.fn.binds fun _ _ _ _ _ _ us hl => match us, hl with | [_, _], _ => rfl)
  · obtain ⟨st, pc, pl, p, a, bs, rfl, _⟩ := h
    rfl
  · obtain ⟨st, pc, pl, p, a, bs, rfl, so, ha0, ha1, ⟨vs, hp, pp⟩, n1, n2, hb0, hb1, Z⟩ := h
    refine ⟨_, pss_one (ps_ret (pe_ix ix_list (pv 1) (pe_has GD hr rfl pass0 (pa_cons (pv 0) (pa_cons (pe_callB call_len_seq (by rfl) B.len PySem.boot_len (pa_cons (pv 1) pa_nil)) pa_nil))) (fun _ _ => rfl))), ?_⟩
    have hl := paired_len pp
    refine ⟨_, rfl, _, rfl, _, rfl, p, _, rfl, .inl (SqL.of hp), st, pc, pl, a, _, rfl, so, ha0, ha1, by omega, by omega, fun r H' h0 h1 so' dr => ?_⟩
    obtain ⟨j, rfl⟩ : ∃ j : Nat, r = j := ⟨r.toNat, by omega⟩
    have hj : j < vs.length := by omega
    obtain ⟨v, hv⟩ : ∃ v, vs[j]? = some v := ⟨_, List.getElem?_eq_getElem hj⟩
    obtain ⟨b, hb, hR⟩ := L2.paired_get pp hv
    exact ⟨p, _, _, v, rfl, rfl, SqL.of (dr _ _ n1 n2 hp), atI_nat hv, Z j b v H' hb (Ct.mono _ _ _ _ (Drw.ts so dr) hR) so' dr⟩
end
end Fs
/-! Flipsheets, errors 2: several clauses «except X as n»; isinstance of a caught error with a dict. -/
namespace Fs
open PySem L2 PySem.Spec PyProof.Rows
abbrev Suite := Addr → Value → Option Addr → TS
/-- what the clauses wish of an exception of the body; slot i is the name's -/
def wManyAs (K : PySem.W.Frag) (i : Nat) (Wout : WX) (D : Ends) : List (Value × Suite) → WX
  | [] => Wout
  | (c, ts) :: r => fun cls d σ H => ∃ b, PySem.W.exmOne K cls c = some b ∧
      (b = true → ∀ a, H a = none → ts a cls d { nx := fun σ' H' => D.nx (σ'.set i none) H', rt := D.rt, bk := fun σ' H' => D.bk (σ'.set i none) H', ct := fun σ' H' => D.ct (σ'.set i none) H' } (σ.set i (some (.ref a))) H) ∧ (b = false → wManyAs K i Wout D r cls d σ H)
inductive ClsOk (X : Cx) (n : Str) : List ExceptHandler → List (Value × Suite) → Prop
  | nil : ClsOk X n [] []
  | cons {x : Str} {c : Value} {ts : Suite} {b₀ : Stmt} {suite : List Stmt} {np pos' : Pos} {hds : List ExceptHandler} {l : List (Value × Suite)} (hc : Names X x c)
      (hsu : ∀ (a : Addr) (oe : Obj) (cls : Value) (d : Option Addr) (pn : List (Addr × Obj)), Zc cls d oe → (∃ vs, oe.data = .fields vs) → PSs (X.suite a ((a, oe) :: pn)) (b₀ :: suite) (ts a cls d)) (r : ClsOk X n hds l) :
      ClsOk X n (.ExceptHandler (some (.Name x np)) (some n) (b₀ :: suite) pos' :: hds) ((c, ts) :: l)
/-- a suite that is never reached -/
theorem pss_never {X : Cx} {st : List Stmt} : PSs X st (fun _ _ _ => False) := ⟨fun _ _ _ _ _ _ h => h.elim⟩
/-! ### a caught error -/
/-- the error at a is down: the ground B holds all but it and the frames; t is the state without it -/
structure Down (X : Cx) (ps : List (Addr × Obj)) (a : Addr) (cls : Value) (d : Option Addr) (σ : L2.St) (H : Hp) (s : Shared) : Prop where
  free : H a = none
  ex : ∃ (B : Heap) (t : Shared), Inv X ps σ H t ∧ (∀ b o, t.heap.get? b = some o → b ∉ frs X.stack → B.get? b = some o) ∧ t.heap.UpToSlots s.heap ∧ HandSPX.FlyingZ B (X.env :: X.outer) a (Zc cls d) s.heap ∧ s.os = t.os ∧ AllBare s.gens
section
variable {X : Cx} {ps : List (Addr × Obj)} {a : Addr} {cls : Value} {d : Option Addr} {σ : L2.St} {H : Hp} {s : Shared} {x n : Str} {c : Value} {i : Nat} {np : Pos}
theorem Down.state (D : Down X ps a cls d σ H s) : Inv X ps σ H s := let ⟨_, _, i, g, u, f, o, r⟩ := D.ex; i.landed g f.1 u o r
/-- the suite's state, the error pinned -/
theorem Down.held (D : Down X ps a cls d σ H s) (hf : X.env.frame = some X.env.locals) : ∃ oe, s.heap.get? a = some oe ∧ Zc cls d oe ∧ (∃ vs, oe.data = .fields vs) ∧ Inv (X.suite a ((a, oe) :: (X.pn ++ ps))) [] σ H s := by
  have J := D.state
  obtain ⟨B, t, _, _, _, f, _, _⟩ := D.ex
  obtain ⟨oe, vs, e1, e2, e3⟩ := f.there
  have noFrame : a ∉ frs (X.env :: X.outer) := fun m => by
    obtain ⟨_, o, e4, e5⟩ := f.2.2.1.mem m
    rw [e1] at e4
    cases e4
    exact e5 _ e3
  refine ⟨oe, e1, e2, ⟨vs, e3⟩, J.suite e1 e3 D.free (fun z => noFrame ?_) fun m => noFrame ?_⟩
  · exact List.mem_filterMap.mpr ⟨X.env, .head _, by rw [hf, z]⟩
  · obtain ⟨e, he, q⟩ := List.mem_filterMap.mp m
    exact List.mem_filterMap.mpr ⟨e, .tail _ he, q⟩
/-- the class that a clause names -/
theorem cls_named {pn : List (Addr × Obj)} {Q E : Value → Shared → Prop} (S : Inv (X.suite a pn) [] σ H s) (hc : Names X x c) (q : Q c s) : wpAny (model X.prog X.w) (X.A.mark (some (.ref a))) (eval (.Name x np) X.env) Q E s := by
  rcases hc with ⟨g, db, m | ⟨m, v, nn⟩⟩
  · exact ld_glob (X := X.suite a pn) S g m q db
  · exact ld_blt (X := X.suite a pn) S g m v q nn db
/-- an error of the body comes down -/
theorem come_down {W : WX} {xe : Value → Shared → Prop} {u : Value} {R : Shared → Prop} (ok : X.Ok) (hs : X.stack = X.env :: X.outer) (hf : X.env.frame = some X.env.locals) (y : L2.XE (X.tr (X.pn ++ ps) xe) W u s)
    (h : ∀ (a : Addr) (cls : Value) (d : Option Addr) (σ : L2.St) (H : Hp) (g : Heap), u = .ref a → Down X ps a cls d σ H { s with heap := g } → W cls d σ H → R { s with heap := g }) :
    wpAny (model X.prog X.w) X.A (noteFrame u X.env) (fun _ s2 => wpAny (model X.prog X.w) X.A (setFlight u none) (fun _ s3 => R s3) X.xe s2) X.xe s := by
  obtain ⟨a, B, t, _, σ, H, cls, d, rfl, i, g, up, sky, na, o, r, wish⟩ := y
  have hfr : X.A.frames = some (X.env :: X.outer) := ok.frames.trans (congrArg some hs)
  have sky2 : Sky B (X.env :: X.outer) a (Zc cls d) X.env.locals s.heap := hs ▸ sky
  exact Sky.land Zc.steady hfr hf sky2 fun g3 f3 u3 => h a cls d σ H g3 rfl ⟨na, B, t, i.ofTry ok, g, up.trans u3, f3, o, r⟩ wish
/-- no clause takes it: it goes on -/
theorem Down.on {Wout : WX} {Q : Flow → Shared → Prop} (D : Down X ps a cls d σ H s) (hs : X.stack = X.env :: X.outer) (hf : X.env.frame = some X.env.locals) (tk : Takes X Wout) (w : Wout cls d σ H) : wpAny (model X.prog X.w) X.A (handleBy (.ref a) X.env []) Q X.xe s := by
  obtain ⟨B, t, i, g, up, f, o, r⟩ := D.ex
  have thrown : wpAny (model X.prog X.w) X.A (setFlight (.ref a) X.env.frame) (fun _ s4 => wpAny (model X.prog X.w) X.A (throw (.ref a) : Sem Flow) Q X.xe s4) X.xe s := by
    rw [hf]
    exact HandSPX.setFlight_upZ f fun g4 hh u4 => wpAny_throw (tk _ _ ⟨a, B, t, ps, σ, H, cls, d, rfl, i, g, up.trans u4, .inr (.inr (hs ▸ hh)), D.free, o, r, w⟩)
  obtain ⟨_, _, _, oe, vs, T, _, _, e1, _, e3, e4, _⟩ := id f
  refine wpAny_handleBy_nil ?_
  unfold PySem.passOn
  refine wpAny_bind (wpAny_field e1 e3 e4 ?_)
  have nn : ¬ ((Value.ref T == Value.none) = true) := by simp
  rw [if_neg nn]
  first
    | exact wpAny_bind (wpAny_pure (wpAny_bind thrown))
    | exact wpAny_bind thrown
/-- the clauses, one after the other -/
theorem Down.clauses {D : Ends} {Wout : WX} (hs : X.stack = X.env :: X.outer) (hf : X.env.frame = some X.env.locals) (hN : X.N.Nodup) (hi : X.N[i]? = some n) (hl : X.env.kindOf n = some .local) (tk : Takes X Wout) (Dn : Down X ps a cls d σ H s) :
    ∀ {hds : List ExceptHandler} {l : List (Value × Suite)}, ClsOk X n hds l → wManyAs X.K i Wout D l cls d σ H → wpAny (model X.prog X.w) X.A (handleBy (.ref a) X.env hds) (SP X ps D) X.xe s
  | _, _, .nil, w => Dn.on hs hf tk w
  | _, _, .cons hc hsu r, w => by
    obtain ⟨b, hb, yes, no⟩ := w
    obtain ⟨o1, e1, z1, _, S1⟩ := Dn.held hf
    have typ : PySem.W.Looks (model X.prog X.w) s.heap (typeOf (.ref a)) cls := fun _ _ _ _ k q => wpAny_typeOf_ref (k _ _ e1) (by rw [z1.1]; exact q)
    refine wpAny_handleBy_cons (codeAny_handlers_test (cls_named S1 hc ((PySem.W.exm_one Dn.state.kIn typ hb).here ?_))) (fun z => by cases z)
    cases b with
    | false => exact Dn.clauses hs hf hN hi hl tk r (no rfl)
    | true =>
      obtain ⟨B, t, j, g, up, f, os, bare⟩ := Dn.ex
      refine codeAny_handlers_suite_as (HandSPX.lands_againZ f fun g2 f2 u2 => ?_)
      have D2 : Down X ps a cls d σ H { s with heap := g2 } := ⟨Dn.free, B, t, j, g, up.trans u2, f2, os, bare⟩
      have ok := D2.state.ok
      obtain ⟨o2, e2, z2, v2, S2⟩ := D2.held hf
      refine store_ok (X := X.suite a ((a, o2) :: (X.pn ++ ps))) (v := V.ref a) S2 hN hi (.inl hl) rfl (fun s3 S3 => ?_) (.inr hl)
      refine wpAny_mono ((hsu a o2 cls d (X.pn ++ ps) z2 v2).run [] s3 _ H _ S3 (yes rfl a Dn.free)) (fun fl s4 q => ?_) fun _ _ z => z.elim
      cases fl with
      | ret u =>
        obtain ⟨v, σ4, H4, S4, rv, q⟩ := q
        exact gone_ok (S4.unsuite ok) hN hi hl fun _ J => ⟨v, _, H4, J, rv, q⟩
      | next =>
        obtain ⟨σ4, H4, S4, q⟩ := q
        exact gone_ok (S4.unsuite ok) hN hi hl fun _ J => ⟨_, H4, J, q⟩
      | brk =>
        obtain ⟨σ4, H4, S4, q⟩ := q
        exact gone_ok (S4.unsuite ok) hN hi hl fun _ J => ⟨_, H4, J, q⟩
      | cont =>
        obtain ⟨σ4, H4, S4, q⟩ := q
        exact gone_ok (S4.unsuite ok) hN hi hl fun _ J => ⟨_, H4, J, q⟩
/-- the try's body ran to its end -/
theorem body_through {xe : Value → Shared → Prop} {pn : List (Addr × Obj)} {D : Ends} {fl : Flow} (ok : X.Ok) (q : SP (X.tr (X.pn ++ ps) xe) pn D fl s) : SP X ps D fl s := by
  cases fl with
  | ret u => exact let ⟨v, σ, H, J, r, q⟩ := q; ⟨v, σ, H, J.ofTry ok, r, q⟩
  | next => exact let ⟨σ, H, J, q⟩ := q; ⟨σ, H, J.ofTry ok, q⟩
  | brk => exact let ⟨σ, H, J, q⟩ := q; ⟨σ, H, J.ofTry ok, q⟩
  | cont => exact let ⟨σ, H, J, q⟩ := q; ⟨σ, H, J.ofTry ok, q⟩
end
/-- try: body / except x as n: .. / except y as n: .. -/
theorem ps_try_manyAs {X : Cx} {n : Str} {i : Nat} {body : List Stmt} {h₀ : ExceptHandler} {hds : List ExceptHandler} {l : List (Value × Suite)} {pos : Pos} {tb : WX → TS} {Wout : WX} (hs : X.stack = X.env :: X.outer) (hf : X.env.frame = some X.env.locals)
    (hN : X.N.Nodup) (hi : X.N[i]? = some n) (hl : X.env.kindOf n = some .local) (tk : Takes X Wout) (hb : ∀ (W : WX) (pn : List (Addr × Obj)) (xe : Value → Shared → Prop), Takes (X.tr pn xe) W → PSs (X.tr pn xe) body (tb W)) (hh : ClsOk X n (h₀ :: hds) l) :
    PS X (.Try body (h₀ :: hds) [] [] pos) (fun D σ H => tb (fun cls d σ H => σ.length = X.N.length → wManyAs X.K i Wout D l cls d σ H) D σ H) := ⟨fun ps s σ H D I h => by
  have run := (hb _ (X.pn ++ ps) (fun u s1 => wpAny (model X.prog X.w) X.A (noteFrame u X.env) (fun _ s2 => wpAny (model X.prog X.w) X.A (setFlight u none) (fun _ s3 => wpAny (model X.prog X.w) X.A (handleBy u X.env (h₀ :: hds)) (SP X ps D) X.xe s3) X.xe s2) X.xe s1)
    (fun u s1 y => come_down (R := fun s3 => wpAny (model X.prog X.w) X.A (handleBy u X.env (h₀ :: hds)) (SP X ps D) X.xe s3) I.ok hs hf y fun a cls d σ' H' g e Dn w => by
      subst e
      exact Dn.clauses hs hf hN hi hl tk hh (w Dn.state.len))).run [] s σ H D (I.toTry _) h
  refine wpAny_Try_except (wpAny_mono run (fun fl s1 q => ?_) fun _ _ y => y)
  have q := body_through I.ok q
  cases fl with
  | next => exact (wpAny_execs_nil q)
  | ret u => exact q
  | brk => exact q
  | cont => exact q⟩
section
variable {X : Cx}
/-- isinstance(e, c), e the caught error, its own dict tracked -/
def rIsD (K : PySem.W.Frag) (D a : Addr) (cls : Value) (d : Option Addr) : List V → Hp → VK → Prop := fun xs H Q => ∃ (c : V) (cv : Value) (b : Bool) (dd : Addr) (fs : List (Str × V)), xs = [.ref a, c] ∧ (∀ u, RelV c u → u = cv) ∧ PySem.W.kitOne K (.ref D) cv = some b ∧ cls = .ref D ∧ d = some dd ∧ H dd = some (.xd fs) ∧ Q (.bl b) H
theorem call_isD {X : Cx} {a D : Addr} {oe : Obj} {cls : Value} {d : Option Addr} {pn : List (Addr × Obj)} (C : ExcC X.K D) (hz : Zc cls d oe) (hf : ∃ vs, oe.data = .fields vs) : CallR (X.suite a ((a, oe) :: pn)) (.builtin "isinstance") (rIsD X.K D a cls d) := by
  intro pns s σ H xs us Q I r h
  obtain ⟨c, cv, b, dd, fs, rfl, hcv, e, rfl, rfl, ea, q⟩ := h
  cases r with
  | cons rx rr =>
    cases rr with
    | cons rt rr =>
      cases rr
      cases rx
      have ec := hcv _ rt
      subst ec
      rcases I.pin (a, oe) (List.mem_append.mpr (.inl List.mem_cons_self)) with ⟨hget, _⟩
      obtain ⟨vs, hv⟩ := hf
      have hx : ObjOk X.prog X.w H s.heap dd (.xd fs) := I.hok dd _ ea
      obtain ⟨mA, hns, hr⟩ := hx
      rcases lookIn_ns hns with ⟨od, ho, hl⟩
      have J : PySem.W.InstAt s.heap a oe D (some od) := ⟨hget, hz.1, by unfold PySem.W.notCls; rw [hv] <;> rfl, by rw [hz.2]; exact ho⟩
      have hcl : (PySem.W.clsIn X.K D).isSome = true := by
        obtain ⟨cd, hc, _⟩ := PySem.W.any_some C.hd
        rw [hc] <;> rfl
      exact PySem.W.kia_one (PySem.W.kitx_exc hcl C.hg C.hk C.hs C.ha C.hn C.ht C.hm) I.kIn J e (fun z => nomatch z) fun tk => ⟨.bl b, H, I.kept (t' := tk) fun _ _ z => z, rfl, q⟩
end
end Fs
/-! Flipsheets, errors 3: _law_heard of a call that is refused. -/
namespace Fs
open PySem L2 LamX PySem.Spec PyProof.Rows
abbrev sHeard : Stmt := top 28
/-- what the written part says of the classes that _law_heard names -/
structure HeardTxt (K : PySem.W.Frag) (mg : Str → Option Value) (C CS CN CF : Addr) : Prop where
  gS : mg "BadSheet" = some (.ref CS)
  gN : mg "NoRow" = some (.ref CN)
  gF : mg "FlipError" = some (.ref CF)
  eS : PySem.W.exmOne K (.ref C) (.ref CS) = some false
  eP : PySem.W.exmOne K (.ref C) (.ref C) = some true
  kF : PySem.W.kitOne K (.ref C) (.ref CF) = some true
  xc : ExcC K C
  xf : XfC K C
/-- BadParameter(v) came: what is told of it -/
def EB (C : Addr) (Q : VK) : XK := fun cls d H' => cls = .ref C ∧ ∃ (dd : Addr) (v : V), d = some dd ∧ H' dd = some (.xd [(("value" : Str), v)]) ∧ ∀ H2 t, Same H' H2 → H2 t = some (.tup [.str "parameter", v, .bl true]) → Q (.ref t) H2
/-- the call is refused -/
def TTbad (C : Addr) : (XK → Hp → VK → Prop) → Hp → VK → Prop := fun tl H Q => ∀ Q', tl (EB C Q) H Q'
abbrev NHeard : List Str := ["_law_call", "_law_told", "error_so"]
theorem scHeard : FnScope NHeard ["_law_call"] (defScope sHeard) := ⟨rfl, rfl, rfl, by decide +kernel, rfl, by decide +kernel, by decide +kernel⟩
theorem heard_gives {X : Cx} {C fI CS CN CF g : Addr} {cdg : Value} {q : Str} (B : Blt X.mg) (T : BadTxt X.prog X.K X.mg C fI) (HT : HeardTxt X.K X.mg C CS CN CF) :
    GivesTo X NHeard "_law_heard" (defScope sHeard) g cdg (defBody sHeard) "_law_call" q (TTbad C) := by
  intro f c' s H Q tl act hc h
  refine ⟨_, pss_cons (ps_set (i := 1) scHeard.nd rfl (.inl rfl) pe_non) (pss_cons (ps_try_manyAs (X := (cxOf C8.CX0 X.prog X.w X.K X.mg X.base NHeard "_law_heard" (defScope sHeard) g cdg X.A X.stack s H C8.E0).nox) (n := "error_so") (i := 2)
      (tb := fun W D σ H => ∃ Ech : XK, (∀ cls d σ' H', Ech cls d H' → W cls d σ' H') ∧ σ[0]? = some (some (.ref f)) ∧ H c' = some (CodeO c' q) ∧ ∀ Q', tl Ech H Q')
      (l := [(.ref CS, fun _ _ _ _ _ _ => False), (.ref C, fun a cls d => _), (.ref CN, fun _ _ _ _ _ _ => False)]) (Wout := fun _ _ _ _ => False)
      rfl rfl scHeard.nd rfl rfl L2.takes0 (fun W pn xe tk => ?_) (.cons ⟨rfl, by decide, .inl HT.gS⟩ (fun _ _ _ _ _ _ _ => pss_never)
        (.cons ⟨rfl, by decide, .inl T.gC⟩ (fun a oe cls d pn hz hf => pss_one (ps_set (i := 1) scHeard.nd rfl (.inl rfl) (pe_tup (pa_cons pe_str (pa_cons (pe_xf HT.xf T.noN hz hf (pv 2)) (pa_cons (pe_callB (call_isD HT.xc hz hf) (by rfl) B.isinstance PyProof.Rows.boot_isinstance (pa_cons (pv 2) (pa_cons (pe_glob (v := .ref CF) (by rfl) HT.gF rfl) pa_nil))) pa_nil))))))
        (.cons ⟨rfl, by decide, .inl HT.gN⟩ (fun _ _ _ _ _ _ _ => pss_never) .nil)))) (pss_one (ps_ret (pv 1)))), ?_⟩
  · refine ⟨fun pns s' σ H' D I h' => ?_⟩
    rcases h' with ⟨Ech, hW, h1, h2, h3⟩
    have hp := fun p1 p2 => act W pn xe Ech p1 p2 tk hW
    refine PSs.run (pss_one (ps_set (i := 1) scHeard.nd rfl (.inl rfl) (pe_tup (pa_cons pe_str (pa_cons (hp _ _) pa_nil))))) pns s' σ H' D I ?_
    exact ⟨h1, h2, h3 _⟩
  · refine ⟨EB C Q, fun cls d σ' H' ⟨e1, dd, v, e2, e3, e4⟩ hl => ?_, rfl, hc, h⟩
    subst e1
    obtain ⟨x0, x1, x2, rfl⟩ : ∃ x0 x1 x2, σ' = [x0, x1, x2] := by
      match σ', hl with
      | [x0, x1, x2], _ => exact ⟨x0, x1, x2, rfl⟩
    refine ⟨false, HT.eS, fun z => Bool.noConfusion z, fun _ => ⟨true, HT.eP, fun _ a na => ?_, fun z => Bool.noConfusion z⟩⟩
    refine ⟨_, rfl, rfl, rfl, dd, _, v, e2, e3, by simp [List.lookup], _, rfl, .ref CF, _, true, dd, _, rfl, fun u r => r, HT.kF, rfl, e2, e3, ?_⟩
    refine ⟨(by show 3 ≤ sizeLine; decide), fun t ht => ⟨_, rfl, e4 _ t (same_new (Same.refl H') ht) upd_same⟩⟩
end Fs
/-! Flipsheets, the law's _law_like: defs that may only be called where no repr is under way. -/
namespace Fs
open PySem L2 PySem.Spec PyProof.Rows
/-- a def's promise where nothing is being shown -/
structure FnG (P : Program) (w : World) (K : PySem.W.Frag) (mg : Str → Option Value) (base : Heap) (k : Nat) (f : Addr) (fd : FuncData) (ps : List Str) (sp : Sp) : Prop where
  len : ∀ vs H Q E1, sp vs H Q E1 → vs.length = ps.length
  run : ∀ (A : Around) (outer : List Env) (s : Shared) (H : Hp) (args : Args) (us : List Value) (vs : List V) (Q : VK) (E : XK), Room k A → A.guards = some [] → Env0 P w K mg base A outer s H → BindsTo s fd args (ps.zip us) → Vals vs us → sp vs H Q E →
    codeAny (model P w) A (.call (.ref f) args) (CR CX0 outer P w H s Q E) s
def HasG (P : Program) (w : World) (K : PySem.W.Frag) (mg : Str → Option Value) (base : Heap) (k : Nat) (x : Str) (ps : List Str) (sp : Sp) : Prop :=
  ∃ f fd, mg x = some (.ref f) ∧ PySem.W.keepIn K (.ref f) = true ∧ FnG P w K mg base k f fd ps sp ∧ Binds K fd ps []
section
variable
  {P : Program}
  {w : World} {K : PySem.W.Frag} {mg : Str → Option Value} {base : Heap}
theorem fun_okG {x qual : Str} {st : Stmt} {f : Addr} {fd : FuncData} {N ps : List Str} {k : Nat} {sp : Sp} (F : Fun K x qual st f fd) (S : FnScope N ps (defScope st)) (len : ∀ vs H Q E, sp vs H Q E → vs.length = ps.length)
    (hbody : ∀ (cdv : Value) (A : Around) (outer : List Env) (s : Shared) (H : Hp) (vs : List V) (Q : VK) (E : XK), Room k (A.deeper (envOfC qual (defScope st) s.heap.objs.size f cdv)) → (A.deeper (envOfC qual (defScope st) s.heap.objs.size f cdv)).guards = some [] → sp vs H Q E →
      ∃ t, PSs (cxOf CX0 P w K mg base N qual (defScope st) f cdv A outer s H E).nox (defBody st) t ∧ t { nx := fun _ H' => Q .non H', rt := Q } (L2.start N vs) H) : FnG P w K mg base (k + 1) f fd ps sp := by
  rcases F.ex with ⟨oc, od, kV, doc, pm, an, cdv, ct, osl, rfl, lk, hcd⟩
  refine ⟨len, fun A outer s H args us vs Q E hr hg e0 hb r hsp => LamX.run_ofS lk hcd S hr e0 hb r (len _ _ _ _ hsp) fun hr' => ?_⟩
  obtain ⟨t, h, q⟩ := hbody cdv A outer s H vs Q E hr' hg hsp
  exact ⟨t, h.nox, q⟩
theorem hasG_of {k : Nat} {x : Str} {st : Stmt} {f : Addr} {fd : FuncData} {ps : List Str} {sp : Sp} (D : Df K mg x st f fd) (F : FnG P w K mg base k f fd ps sp) (b : Binds K fd ps []) : HasG P w K mg base k x ps sp := ⟨f, fd, D.g, D.fn.kp, F, b⟩
end
section
variable {X : Cx}
theorem run_fnG {k : Nat} {f : Addr} {fd : FuncData} {ps : List Str} {sp : Sp} {pns : List (Addr × Obj)} {σ : L2.St} {H : Hp} {s : Shared} {Q : VK} {us : List Value} {vs : List V} (F : FnG X.prog X.w X.K X.mg X.base k f fd ps sp) (hr : Room k X.A) (hg : X.A.guards = some []) (hb : Binds X.K fd ps [])
    (I : Inv X pns σ H s) (r : Vals vs us) (h : sp vs H Q E0) : wpAny (model X.prog X.w) X.A (call (.ref f) us) (EP X pns σ Q) X.xe s := by
  have hl : (us ++ []).length = ps.length := by rw [List.append_nil, ← r.length]; exact F.len _ _ _ _ h
  refine wpAny_call (codeAny_mono (F.run X.A X.stack s H ⟨us, []⟩ (us ++ []) vs Q E0 hr hg I.env0 (hb s us I.kIn hl) (by rw [List.append_nil]; exact r) h) fun r s' hq => ?_)
  cases r with
  | error e => exact ((show False from hq).elim)
  | ok fl =>
    cases fl with
    | ret u => exact I.after hq
    | next => exact False.elim hq
    | brk => exact False.elim hq
    | cont => exact False.elim hq
theorem pe_hasG {k : Nat} {x : Str} {ps : List Str} {sp : Sp} {p pos : Pos} {e : Expr} {es : List Expr} {t : TA} (F : HasG X.prog X.w X.K X.mg X.base k x ps sp) (hr : Room k X.A) (hgd : X.A.guards = some []) (hg : Gl X x)
    (args : PA X (e :: es) t) (nodbg : (x == ("__debug__" : Str)) = false := by decide) (each : starEach (e :: es) X.env = (false, eval e X.env) :: starEach es X.env := by rfl) (noStar : (backTo pos (starEach es X.env)).any (·.1) = false := by rfl) :
    PE X (.Call (.Name x p) (e :: es) [] pos) (tCall sp [] E0 t) := by
  obtain ⟨f, fd, hm, hk, F, hb⟩ := F
  refine ⟨fun pns s σ H Q I h => ?_⟩
  refine wpAny_Call_Name_kw (ld_glob I hg hm (PySem.W.callWith_K (h₀ := X.base) I.ok.mod.kin hk (thn (args.run pos pns s σ H _ I h) fun us s1 ⟨vs, H1, I1, r, q⟩ => ⟨I1.kIn, ?_⟩) each noStar) nodbg)
  refine run_fnG F hr hgd hb I1 r ?_
  have q' : sp (vs ++ []) H1 Q E0 := q
  rw [List.append_nil] at q'
  exact q'
theorem pe_hasG0 {k : Nat} {x : Str} {ps : List Str} {sp : Sp} {p pos : Pos} (F : HasG X.prog X.w X.K X.mg X.base k x ps sp) (hr : Room k X.A) (hgd : X.A.guards = some []) (hg : Gl X x) (hdb : (x == ("__debug__" : Str)) = false := by decide) :
    PE X (.Call (.Name x p) [] [] pos) (tCall sp [] E0 tNil) := by
  obtain ⟨f, fd, hm, hk, F, hb⟩ := F
  refine ⟨fun pns s σ H Q I h => ?_⟩
  refine (wpAny_Call_Name_kw (ld_glob I hg hm ?_ hdb))
  exact PySem.W.callWith_K0 I.kIn hk (run_fnG (us := []) F hr hgd hb I .nil h)
/-- repr of an int, of data -/
theorem call_repr2 (hg : X.A.guards = some []) (hu : X.A.units + 64 < cLine) : CallR X (.builtin "repr") (fun xs H Q => (∃ i, xs = [.int i] ∧ i.natAbs.log2 < 1920 ∧ Q (.str (toString i)) H) ∨
    ∃ a d, xs = [.ref a] ∧ Dp X.K H (.ref a) d ∧ d.showable = true ∧ d.hasDict = false ∧ d.depth ≤ 60 ∧ d.shown.length ≤ sizeLine ∧ Q (.str d.shown) H) := by
  intro pns s σ H xs us Q I r h
  rcases h with h | h
  · exact SkE.call_repr_int pns s σ H xs us Q I r h
  · exact call_reprD hg hu pns s σ H xs us Q I r h
end
section
variable
  {P : Program}
  {w : World} {K : PySem.W.Frag} {mg : Str → Option Value} {base : Heap}
abbrev sLike : Stmt := top 29
/-- data that may be shown -/
structure ShowOk (d : PyData) : Prop where
  sh : d.showable = true
  nd : d.hasDict = false
  dp : d.depth ≤ 60
  ln : d.shown.length ≤ sizeLine
def spLike (K : PySem.W.Frag) : Sp := fun vs H Q _ => ∃ x y : V, vs = [x, y] ∧ ((∃ i : Int, x = .int i ∧ y = .int i ∧ i.natAbs.log2 < 1920) ∨ ∃ (a b : Addr) (d : PyData), x = .ref a ∧ y = .ref b ∧ Dp K H x d ∧ Dp K H y d ∧ ShowOk d) ∧ Q (.bl true) H
theorem scLike : FnScope ["_law_got", "_law_due"] ["_law_got", "_law_due"] (defScope sLike) := ⟨rfl, rfl, rfl, by decide +kernel, rfl, by decide +kernel, by decide +kernel⟩
theorem ok_like {f : Addr} {fd : FuncData} (B : Blt mg) (D : Df K mg "_law_like" sLike f fd) : HasG P w K mg base 1 "_law_like" ["_law_got", "_law_due"] (spLike K) := by
  refine hasG_of D (fun_okG D.fn scLike (fun vs H Q E h => ?_) (fun cdv A outer s H vs Q E hr hg h => ?_)) (D.fn.binds fun _ _ _ _ _ _ us hl => match us, hl with | [_, _], _ => rfl)
  · obtain ⟨x, y, rfl, _⟩ := h
    rfl
  · obtain ⟨x, y, rfl, h, q⟩ := h
    have hu := hr.units
    refine ⟨_, pss_one (ps_ret (pe_cmpR op_eq (pe_callB (call_repr2 hg hu) (by rfl) B.repr PyProof.Rows.boot_repr (pa_cons (pv 0) pa_nil)) (pe_callB (call_repr2 hg hu) (by rfl) B.repr PyProof.Rows.boot_repr (pa_cons (pv 1) pa_nil)) rfl)), ?_⟩
    rcases h with ⟨i, rfl, rfl, hi⟩ | ⟨a, b, d, rfl, rfl, h1, h2, S⟩
    · refine ⟨_, rfl, .inl ⟨i, rfl, hi, _, rfl, .inl ⟨i, rfl, hi, rfl, ?_⟩⟩⟩
      rw [decide_eq_true rfl]
      exact q
    · refine ⟨_, rfl, .inr ⟨a, d, rfl, h1, S.sh, S.nd, S.dp, S.ln, _, rfl, .inr ⟨b, d, rfl, h2, S.sh, S.nd, S.dp, S.ln, rfl, ?_⟩⟩⟩
      rw [decide_eq_true rfl]
      exact q
end
end Fs
/-! Flipsheets: data that _law_like is given, shown. -/
namespace Fs
open PySem L2 PySem.Spec PyProof.Rows
def smallI (i : Int) : Bool := decide (0 ≤ i) && decide (i ≤ 20)
theorem leaf_small {i : Int} (h : smallI i = true) : (PyData.int i).leavesShort 13 = true ∧ (PyData.int i).showable = true := by
  unfold smallI at h
  simp only [decide_eq_true_eq, Bool.and_eq_true] at h
  obtain ⟨h0, h1⟩ := h
  obtain ⟨n, rfl⟩ : ∃ n : Nat, i = n := ⟨i.toNat, by omega⟩
  have hn : n < 21 := by omega
  have all : (List.range 21).all (fun n : Nat => (PyData.int n).leavesShort 13 && (PyData.int n).showable) = true := by decide +kernel
  have z := List.all_eq_true.mp all n (List.mem_range.mpr hn)
  simpa [Bool.and_eq_true] using z
def smallP (p : P2) : Bool := smallI p.1 && smallI p.2
def okP (d : PyData) (k : Nat) : Prop := d.showable = true ∧ d.hasDict = false ∧ d.leavesShort 13 = true ∧ d.bulk = k
theorem okP_dP {p : P2} (h : smallP p = true) : okP (dP p) 2 := by
  obtain ⟨h1, h2⟩ := (Bool.and_eq_true_iff.mp h)
  obtain ⟨a1, a2⟩ := leaf_small h1
  obtain ⟨b1, b2⟩ := leaf_small h2
  refine ⟨?_, ?_, ?_, ?_⟩
  · simp only [dP, PyData.showable, PyData.showableAll] at *
    rw [a2, b2]
    rfl
  · simp [dP, PyData.hasDict, PyData.hasDictAll]
  · simp only [dP, PyData.leavesShort, PyData.leavesShortAll] at *
    rw [a1, b1]
    rfl
  · simp [dP, PyData.bulk, PyData.bulkAll]
theorem okAll_dP : ∀ {c : List P2}, (∀ p ∈ c, smallP p = true) → PyData.showableAll (c.map dP) = true ∧ PyData.hasDictAll (c.map dP) = false ∧ PyData.leavesShortAll 13 (c.map dP) = true ∧ PyData.bulkAll (c.map dP) = 3 * c.length
  | [], _ => ⟨by simp [PyData.showableAll], by simp [PyData.hasDictAll], by simp [PyData.leavesShortAll], by simp [PyData.bulkAll]⟩
  | p :: c, h => by
    obtain ⟨a1, a2, a3, a4⟩ := okP_dP (h p List.mem_cons_self)
    obtain ⟨b1, b2, b3, b4⟩ := okAll_dP (c := c) fun q hq => h q (List.mem_cons_of_mem _ hq)
    refine ⟨?_, ?_, ?_, ?_⟩
    · rw [List.map_cons, PyData.showableAll, a1, b1]; rfl
    · rw [List.map_cons, PyData.hasDictAll, a2, b2]; rfl
    · rw [List.map_cons, PyData.leavesShortAll, a3, b3]; rfl
    · rw [List.map_cons, PyData.bulkAll, a4, b4, List.length_cons]; omega
theorem okP_dC {c : List P2} (h : ∀ p ∈ c, smallP p = true) : okP (dC c) (3 * c.length) := by
  obtain ⟨b1, b2, b3, b4⟩ := okAll_dP h
  exact ⟨by simp only [dC, PyData.showable]; exact b1, by simp only [dC, PyData.hasDict]; exact b2, by simp only [dC, PyData.leavesShort]; exact b3, by simp only [dC, PyData.bulk]; exact b4⟩
def chkSmall (n : Nat) : Bool := (List.range (sizeN n)).all fun g => (List.range (sizeN n)).all fun i => (rowN n g 13 i).all smallP
theorem chkSmall_ok {n : Nat} (h : Poly n) : chkSmall n = true := poly_all (p := chkSmall) (by decide +kernel) h
theorem fact_small {n g i : Nat} (h : Poly n) (hg : g < sizeN n) (hi : i < sizeN n) : ∀ p ∈ rowN n g 13 i, smallP p = true := List.all_eq_true.mp (all_range (all_range (chkSmall_ok h) hg) hi)
/-- [n, row, n] may be shown -/
theorem show3 {a b : Int} {c : List P2} (ha : smallI a = true) (hb : smallI b = true) (hc : ∀ p ∈ c, smallP p = true) (hl : c.length ≤ 100) : ShowOk (.list [.int a, dC c, .int b]) := by
  obtain ⟨c1, c2, c3, c4⟩ := okP_dC hc
  obtain ⟨a1, a2⟩ := leaf_small ha
  obtain ⟨b1, b2⟩ := leaf_small hb
  refine ⟨?_, ?_, ?_, PyData.shown_fits_bulk (B := 13) (by decide) (by decide) ?_ ?_⟩
  · simp only [PyData.showable, PyData.showableAll] at *
    rw [a2, b2, c1]
    rfl
  · simp only [PyData.hasDict, PyData.hasDictAll]
    rw [c2]
    rfl
  · have := depth_dC c
    simp only [PyData.depthAll, PyData.depth]
    omega
  · simp only [PyData.leavesShort, PyData.leavesShortAll] at *
    rw [a1, b1, c3]
    rfl
  · simp only [PyData.bulk, PyData.bulkAll]
    rw [c4]
    have e : (2 : Nat) ^ 20 = 1048576 := (by decide)
    omega
end Fs
/-! Flipsheets, the law's _law_right. -/
namespace Fs
open PySem L2 PySem.Spec PyProof.Rows
section
variable {P : Program} {w : World} {K : PySem.W.Frag} {mg : Str → Option Value} {base : Heap} {C fI : Addr}
abbrev sRight : Stmt := top 33
def spRight : Sp := fun vs H Q _ => ∃ (st pc pl : Addr), vs = [.ref st] ∧ StOk H st pc pl 0 ∧ ∀ H', Drw st pl H H' → Q (.bl true) H'
abbrev NRight : List Str := ["_law_state", "_law_many_so", "_law_every", "_law_start", "_law_goal", "_law_third", "_law_steps_so", "_law_got", "_law_row_here", "_law_over_so", "_law_one"]
theorem scRight : FnScope NRight ["_law_state"] (defScope sRight) := ⟨rfl, rfl, rfl, by decide +kernel, rfl, by decide +kernel, by decide +kernel⟩
/-- 7 or 4 to 6 corners -/
theorem many_by {rest : TS} {D : Ends} {σ : L2.St} {H : Hp} {st pc pl : Addr} (h0 : σ[0]? = some (some (.ref st))) (so : StOk H st pc pl 0)
    (Z : ∀ (n : Nat) H1 (a : Int), Poly n → 4 ≤ n → StOk H1 st pc pl a → 0 ≤ a → a ≤ 2 → Drw st pl H H1 → rest D (σ.set 1 (some (.int n))) H1) :
    tSeq (tAsg (tIf (tTest (tOp rEq (tCall spDraw [] E0 (tCons (tVar 0) (tCons (tC (.int 8)) tNil))) (tC (.int 0)))) (tC (.int 7)) (tOp (rI0 fun i j => .int (i + j)) (tC (.int 4)) (tCall spDraw [] E0 (tCons (tVar 0) (tCons (tC (.int 3)) tNil))))) (gName 1)) rest D σ H := by
  refine ⟨_, h0, st, pc, pl, 0, 8, rfl, so, by decide, by decide, by decide, by decide, fun r H1 _ _ so1 d1 => ⟨rfl, _, rfl, ite2 (fun _ => ?_) (fun _ => ?_)⟩⟩
  · exact Z 7 H1 _ (.inr (.inr (.inr (.inr rfl)))) (by decide) so1 (by decide) (by decide) d1
  · refine ⟨_, h0, st, pc, pl, _, 3, rfl, so1, by decide, by decide, by decide, by decide, fun r' H2 r0 r3 so2 d2 => ⟨_, _, rfl, rfl, ?_⟩⟩
    obtain ⟨n, hn⟩ : ∃ n : Nat, 4 + r' = n := ⟨(4 + r').toNat, by omega⟩
    have hp : Poly n := by unfold Poly; omega
    have z := Z n H2 _ hp (by omega) so2 (by decide) (by decide) (d1.tr d2)
    rw [← hn] at z
    exact z
theorem cut_some {n j : Nat} {b : List P2} (h : Poly n) (e : (cuts n)[j]? = some b) : j < sizeN n ∧ b = cutN n j := by
  have hj : j < sizeN n := by
    rw [← (fact_sizes h).1]
    exact ((List.getElem?_eq_some_iff.mp e).1)
  have z := cutN_get h hj
  rw [e] at z
  exact ⟨hj, Option.some.inj z⟩
theorem ok_right {f : Addr} {fd : FuncData} (B : Blt mg) (GDr : Has P w K mg base CX0 2 "_law_draw" ["_law_state", "_law_limit"] spDraw) (GOf : Has P w K mg base CX0 3 "_law_of" ["_law_state", "_law_some"] spOf)
    (GAl : Has P w K mg base CX0 2 "_law_all_cuttings" ["_law_many_so"] spLAll) (GSt : Has P w K mg base CX0 3 "_law_steps" ["_law_many_so", "_law_goal"] (spNear P w))
    (GA : Has P w K mg base (L2.CX P w) 5 "flips_apart" ["corners", "one", "other"] (spApart C)) (GB : Has P w K mg base (L2.CX P w) 5 "flips_between" ["corners", "one", "other"] (spBetw C))
    (GR : Has P w K mg base CX0 3 "_law_row" ["_law_many_so", "_law_start", "_law_steps_so"] (spLRow P w)) (GL : HasG P w K mg base 1 "_law_like" ["_law_got", "_law_due"] (spLike K))
    (D : Df K mg "_law_right" sRight f fd) : HasG P w K mg base 6 "_law_right" ["_law_state"] spRight := by
  refine hasG_of D (fun_okG D.fn scRight (fun vs H Q E h => ?_) (fun cdv A outer s H vs Q E hr hgd h => ?_)) (D.fn.binds fun _ _ _ _ _ _ us hl => match us, hl with | [_], _ => rfl)
  · obtain ⟨st, pc, pl, rfl, _⟩ := h
    rfl
  · obtain ⟨st, pc, pl, rfl, so, Z⟩ := h
    have hu := hr.units
    have r1 := hr.mono (j := 1) (by decide)
    have r2 := hr.mono (j := 2) (by decide)
    have r3 := hr.mono (j := 3) (by decide)
    refine ⟨_, pss_cons (ps_set (i := 1) scRight.nd rfl (.inl rfl) (pe_ifExp (pt_cmpR op_eq (pe_has GDr r2 rfl pass0 (pa_cons (pv 0) (pa_cons pe_int pa_nil))) pe_int (nomark _)) pe_int (pe_op op_add pe_int (pe_has GDr r2 rfl pass0 (pa_cons (pv 0) (pa_cons pe_int pa_nil))))))
      (pss_cons (ps_set (i := 2) scRight.nd rfl (.inl rfl) (pe_has GAl r2 rfl pass0 (pa_cons (pv 1) pa_nil)))
      (pss_cons (ps_asg (pe_tup (pa_cons (pe_has GOf r3 rfl pass0 (pa_cons (pv 0) (pa_cons (pv 2) pa_nil))) (pa_cons (pe_has GOf r3 rfl pass0 (pa_cons (pv 0) (pa_cons (pv 2) pa_nil))) (pa_cons (pe_has GOf r3 rfl pass0 (pa_cons (pv 0) (pa_cons (pv 2) pa_nil))) pa_nil))))
          (pg_tup rfl (pgs_cons (pg_name (i := 3) scRight.nd rfl (.inr rfl)) (pgs_cons (pg_name (i := 4) scRight.nd rfl (.inr rfl)) (pgs_cons (pg_name (i := 5) scRight.nd rfl (.inl rfl)) pgs_nil)))))
      (pss_cons (ps_set (i := 6) scRight.nd rfl (.inl rfl) (pe_has GSt r3 rfl pass0 (pa_cons (pv 1) (pa_cons (pv 4) pa_nil))))
      (pss_cons (ps_if (pt_cmpR op_ne (pe_callB call_len_nd (by rfl) B.len PySem.boot_len (pa_cons (pv 6) pa_nil)) (pe_callB call_len_seq (by rfl) B.len PySem.boot_len (pa_cons (pv 2) pa_nil)) (nomark _)) (pss_one (ps_ret pe_bl)) pss_nil)
      (pss_cons (ps_set (i := 7) scRight.nd rfl (.inl rfl) (pe_lst (pa_cons (pe_has GA hr rfl passL (pa_cons (pv 1) (pa_cons (pv 3) (pa_cons (pv 4) pa_nil)))) (pa_cons (pe_has GB hr rfl passL (pa_cons (pv 1) (pa_cons (pv 3) (pa_cons (pv 4) pa_nil)))) (pa_cons (pe_has GA hr rfl passL (pa_cons (pv 1) (pa_cons (pv 4) (pa_cons (pv 3) pa_nil)))) pa_nil)))))
      (pss_cons (ps_set (i := 8) scRight.nd rfl (.inl rfl) (pe_has GR r3 rfl pass0 (pa_cons (pv 1) (pa_cons (pv 3) (pa_cons (pv 6) pa_nil)))))
      (pss_cons (ps_if (pt_not (pt_val (pe_hasG GL r1 hgd rfl (pa_cons (pv 7) (pa_cons (pe_lst (pa_cons (pe_ndgetP P w rfl rfl hu (pv 6) (pv 3) (fun _ _ => rfl)) (pa_cons (pv 8) (pa_cons (pe_ndgetP P w rfl rfl hu (pv 6) (pv 3) (fun _ _ => rfl)) pa_nil)))) pa_nil))))) (pss_one (ps_ret pe_bl)) pss_nil)
      (pss_cons (ps_if (pt_cmpR (op_onesNe hu) (pe_lc (own := [("_law_one", 10)]) (g := gName 10) rfl scRight.nd (pi_tup (pv 8)) (blkOk_by (N := NRight) (sc := defScope sRight) (by decide +kernel))
            (fun _ _ _ _ _ => pg_name (i := 10) scRight.nd rfl (Or.inl rfl)) (fun _ _ _ _ _ => pts_one (PW.pt (pw_and (pt_cmpR (op_inC hu) (pv 10) (pv 3) rfl) (pw_and1 (pt_cmpR (op_inC hu) (pv 10) (pv 4) rfl))))) (fun _ _ _ _ _ => pe_int)) (pe_lst pa_nil) (nomark _)) (pss_one (ps_ret pe_bl)) pss_nil)
      (pss_cons (ps_set (i := 9) scRight.nd rfl (.inl rfl) (pe_op op_add (pe_has GA hr rfl passL (pa_cons (pv 1) (pa_cons (pv 3) (pa_cons (pv 5) pa_nil)))) (pe_has GA hr rfl passL (pa_cons (pv 1) (pa_cons (pv 5) (pa_cons (pv 4) pa_nil))))))
      (pss_one (ps_ret (pe_and (pe_hasG GL r1 hgd rfl (pa_cons (pe_has GA hr rfl passL (pa_cons (pv 1) (pa_cons (pv 5) (pa_cons (pv 4) pa_nil)))) (pa_cons (pe_ndgetP P w rfl rfl hu (pv 6) (pv 5) (fun _ _ => rfl)) pa_nil))) (pe_one (pe_cmpR op_ge (pv 9) (pe_ndgetP P w rfl rfl hu (pv 6) (pv 3) (fun _ _ => rfl)) rfl)))))))))))))), ?_⟩
    refine many_by rfl so fun n H1 a hp hn4 so1 ha0 ha2 d1 => ?_
    have hp3 := poly_le hp
    have hsz : 0 < sizeN n := by
      rcases hp with e | e | e | e | e <;> rw [e] <;> decide
    have hsl := sizeN_le n
    have hcl := (fact_sizes hp).1
    -- every
    refine ⟨_, rfl, n, rfl, hp, hn4, fun H2 p sm2 hpn ls2 => ?_⟩
    have so2 := so1.same sm2
    have d2 := d1.tr (Drw.of sm2)
    have np1 : p ≠ st := fun z => by rw [z, so1.d] at hpn; cases hpn
    have np2 : p ≠ pl := fun z => by
      obtain ⟨_, ls, _, e, _⟩ := so1.l
      rw [z, e] at hpn
      cases hpn
    -- three drawn ones
    refine ⟨_, rfl, _, rfl, st, pc, pl, p, a, cuts n, rfl, so2, ha0, by omega, ls2, np1, np2, by omega, by omega, fun i b1 v1 H3 e1 c1 so3 d3 => ?_⟩
    obtain ⟨hi, rfl⟩ := cut_some hp e1
    have keep : ∀ {H H' : Hp}, LsOf Ct H p (cuts n) → Drw st pl H H' → TSm H H' → LsOf Ct H' p (cuts n) := fun l d t => l.keep Ct.mono t fun vs e => d _ _ np1 np2 e
    have ls3 := keep ls2 d3 (Drw.ts so2 d3)
    refine ⟨_, rfl, _, rfl, st, pc, pl, p, a + 1, cuts n, rfl, so3, by omega, by omega, ls3, np1, np2, by omega, by omega, fun g b2 v2 H4 e2 c2 so4 d4 => ?_⟩
    obtain ⟨hg, rfl⟩ := cut_some hp e2
    have ls4 := keep ls3 d4 (Drw.ts so3 d4)
    refine ⟨_, rfl, _, rfl, st, pc, pl, p, a + 1 + 1, cuts n, rfl, so4, by omega, by omega, ls4, np1, np2, by omega, by omega, fun t b3 v3 H5 e3 c3 so5 d5 => ?_⟩
    obtain ⟨ht, rfl⟩ := cut_some hp e3
    have ls5 := keep ls4 d5 (Drw.ts so4 d5)
    have c1 := Ct.mono _ _ _ _ (Drw.ts so4 d5) (Ct.mono _ _ _ _ (Drw.ts so3 d4) c1)
    have c2 := Ct.mono _ _ _ _ (Drw.ts so4 d5) c2
    have dd := d2.tr (d3.tr (d4.tr d5))
    refine ⟨(by show 3 ≤ sizeLine; decide), fun q hq => ⟨q, _, rfl, SqT.of upd_same, rfl, _, _, rfl, _, _, rfl, _, _, rfl, rfl, ?_⟩⟩
    have sm6 := same_new (o := .tup [v1, v2, v3]) (Same.refl H5) hq
    have c1 := Ct.mono _ _ _ _ (same_ts sm6) c1
    have c2 := Ct.mono _ _ _ _ (same_ts sm6) c2
    have c3 := Ct.mono _ _ _ _ (same_ts sm6) c3
    have ls6 := ls5.same Ct.mono sm6
    have dd := dd.tr (Drw.of sm6)
    clear sm6 ls5 ls4 ls3 ls2 so5 so4 so3 so2 so1 hq
    generalize upd H5 q (.tup [v1, v2, v3]) = H6 at *
    -- the steps
    refine ⟨_, rfl, _, rfl, n, g, v2, rfl, hp, hg, c2, fun H7 d sm7 _ nd7 => ?_⟩
    obtain ⟨evs, hev, pev⟩ := ls6.same Ct.mono sm7
    have hevl : evs.length = sizeN n := by rw [paired_len pev]; exact hcl
    refine ⟨_, rfl, d, _, rfl, nd7, _, rfl, p, evs, rfl, .inl (SqL.of hev), rfl, _, rfl, ?_⟩
    have hkl : (kvsOf n (found n g)).length = evs.length := by
      unfold kvsOf
      rw [List.length_map, hevl]
      exact (fact_found hp hg).1
    rw [hkl, decide_eq_true rfl]
    refine iteF ?_
    have c1 := Ct.mono _ _ _ _ (same_ts sm7) c1
    have c2 := Ct.mono _ _ _ _ (same_ts sm7) c2
    have c3 := Ct.mono _ _ _ _ (same_ts sm7) c3
    have dd := dd.tr (Drw.of sm7)
    -- got
    refine ⟨_, rfl, _, rfl, _, rfl, n, v1, v2, rfl, .inl ⟨n, i, g, rfl, hp, hi, hg, c1, c2, fun H8 sm8 => ?_⟩⟩
    have ts8 := same_ts sm8
    refine ⟨_, rfl, _, rfl, _, rfl, n, v1, v2, rfl, .inl ⟨n, i, g, rfl, hp, hi, hg, Ct.mono _ _ _ _ ts8 c1, Ct.mono _ _ _ _ ts8 c2, fun H9 rv sm9 hrv => ?_⟩⟩
    have sm79 := sm8.trans sm9
    have ts9 := same_ts sm79
    refine ⟨_, rfl, _, rfl, _, rfl, n, v2, v1, rfl, .inl ⟨n, g, i, rfl, hp, hg, hi, Ct.mono _ _ _ _ ts9 c2, Ct.mono _ _ _ _ ts9 c1, fun HA smA => ⟨(by show 3 ≤ sizeLine; decide), fun q hq => ?_⟩⟩⟩
    rw [fact_sym hp hi hg]
    have smB := same_new (o := .lst [.int (dt n g i : Int), rv, .int (dt n g i : Int)]) (Same.refl HA) hq
    have sm7B := sm79.trans (smA.trans smB)
    have hrvB := Ct.mono _ _ _ _ (same_ts (smA.trans smB)) hrv
    have hgot : upd HA q (.lst [.int (dt n g i : Int), rv, .int (dt n g i : Int)]) q = some (.lst [.int (dt n g i : Int), rv, .int (dt n g i : Int)]) := upd_same
    generalize upd HA q (.lst [.int (dt n g i : Int), rv, .int (dt n g i : Int)]) = HB at *
    have tsB := same_ts sm7B
    -- the law's row
    refine ⟨_, rfl, _, rfl, _, rfl, n, g, i, v1, d, rfl, hp, hg, hi, Ct.mono _ _ _ _ tsB c1, nd7.same sm7B, fun HC lv smC hlv => ?_⟩
    have sm7C := sm7B.trans smC
    have c1C := Ct.mono _ _ _ _ (same_ts sm7C) c1
    have ndC := nd7.same sm7C
    have hli := found_lookup hp hg hi
    -- alike
    refine ⟨_, rfl, _, rfl, _, rfl, d, _, _, _, rfl, ndC, c1C, hli, _, rfl, _, rfl, _, rfl, d, _, _, _, rfl, ndC, c1C, hli, (by show 3 ≤ sizeLine; decide), fun q2 hq2 => ?_⟩
    have smD := same_new (o := .lst [.int (dt n g i : Int), lv, .int (dt n g i : Int)]) (Same.refl HC) hq2
    have hdue : upd HC q2 (.lst [.int (dt n g i : Int), lv, .int (dt n g i : Int)]) q2 = some (.lst [.int (dt n g i : Int), lv, .int (dt n g i : Int)]) := upd_same
    have hgotD := smD _ _ (smC _ _ hgot)
    have hlvD := Ct.mono _ _ _ _ (same_ts smD) hlv
    have hrvD := Ct.mono _ _ _ _ (same_ts (smC.trans smD)) hrvB
    generalize upd HC q2 (.lst [.int (dt n g i : Int), lv, .int (dt n g i : Int)]) = HD at *
    have sm7D := sm7C.trans smD
    have hdt := (fact_good hp hg hi).2.1
    have hsml : smallI (dt n g i : Int) = true := by
      unfold smallI
      simp only [decide_eq_true_eq, Bool.and_eq_true]
      omega
    refine ⟨.ref q, .ref q2, rfl, .inr ⟨q, q2, .list [.int (dt n g i : Int), dC (rowN n g 13 i), .int (dt n g i : Int)], rfl, rfl, .lst (SqL.of hgotD) (.cons (.int _) (.cons hrvD.dp (.cons (.int _) .nil))), .lst (SqL.of hdue) (.cons (.int _) (.cons hlvD.dp (.cons (.int _) .nil))),
      show3 hsml hsml (fact_small hp hg hi) (Nat.le_trans (rowN_len n g 13 i) (by decide))⟩, _, rfl, iteF ?_⟩
    -- no diagonal of both
    obtain ⟨la, lvs, rfl, hla, pla⟩ := id hlvD
    have c1D := Ct.mono _ _ _ _ (same_ts sm7D) c1
    have c2D := Ct.mono _ _ _ _ (same_ts sm7D) c2
    refine ⟨_, rfl, la, rfl, ⟨_, SqT.of hla⟩, fun D0 hD0 => lc_tup (K := K) (a := la) (xs := lvs) (fun k H' => Same HD H' ∧ Ones H' D0 0) ⟨same_new (Same.refl HD) hD0, upd_same⟩ (fun k H' _ s => SqT.of (s.1 _ _ hla)) ?_ ?_⟩
    · rintro k y HE hk ⟨smE, onE⟩
      obtain ⟨x, hx, hPx⟩ := L2.paired_get pla hk
      have tsE := same_ts smE
      have hrow := fact_row hp hg hi x (List.mem_of_getElem? hx)
      refine ⟨rfl, _, rfl, _, rfl, x, cutN n i, Pr.mono _ _ _ _ tsE hPx, Ct.mono _ _ _ _ tsE c1D, _, rfl, ite2 (fun w1 => ?_) (fun w1 => ?_)⟩
      · have nb : ¬ x ∈ cutN n g := fun z => hrow ⟨of_decide_eq_true w1, z⟩
        exact ⟨_, rfl, _, rfl, x, cutN n g, Pr.mono _ _ _ _ tsE hPx, Ct.mono _ _ _ _ tsE c2D, _, rfl, ite2 (fun z => absurd (of_decide_eq_true z) nb) (fun _ => ⟨smE, onE⟩)⟩
      · exact ⟨smE, onE⟩
    · rintro HE ⟨smE, onE⟩
      refine ⟨Nat.zero_le _, fun e he => ⟨_, _, _, rfl, rfl, kept1 he onE, upd_same, _, rfl, iteF ?_⟩⟩
      have smF := same_new (o := .lst []) smE he
      have sm7F := sm7D.trans smF
      generalize upd HE e (.lst []) = HF at *
      have tsF := same_ts sm7F
      -- over a third
      refine ⟨_, rfl, _, rfl, _, rfl, n, v1, v3, rfl, .inl ⟨n, i, t, rfl, hp, hi, ht, Ct.mono _ _ _ _ tsF c1, Ct.mono _ _ _ _ tsF c3, fun HG smG => ?_⟩⟩
      have tsG := same_ts (sm7F.trans smG)
      refine ⟨_, rfl, _, rfl, _, rfl, n, v3, v2, rfl, .inl ⟨n, t, g, rfl, hp, ht, hg, Ct.mono _ _ _ _ tsG c3, Ct.mono _ _ _ _ tsG c2, fun HI smI => ⟨_, _, rfl, rfl, ?_⟩⟩⟩
      have sm7I := sm7F.trans (smG.trans smI)
      have tsI := same_ts sm7I
      refine ⟨_, rfl, _, rfl, _, rfl, n, v3, v2, rfl, .inl ⟨n, t, g, rfl, hp, ht, hg, Ct.mono _ _ _ _ tsI c3, Ct.mono _ _ _ _ tsI c2, fun HJ smJ => ?_⟩⟩
      have sm7J := sm7I.trans smJ
      have ndJ := nd7.same sm7J
      have hdtt := (fact_good hp hg ht).2.1
      have hlog : (dt n g t : Int).natAbs.log2 < 1920 := by
        have : (dt n g t : Int).natAbs ≤ 12 := by omega
        have h2 := Nat.log2_le_self (dt n g t : Int).natAbs
        omega
      refine ⟨_, rfl, _, rfl, d, _, _, _, rfl, ndJ, Ct.mono _ _ _ _ (same_ts sm7J) c3, found_lookup hp hg ht, _, _, rfl, .inl ⟨_, rfl, rfl, hlog⟩, true, rfl, iteT ?_⟩
      refine ⟨_, rfl, _, rfl, _, rfl, d, _, _, _, rfl, ndJ, Ct.mono _ _ _ _ (same_ts sm7J) c1, hli, _, _, rfl, rfl, ?_⟩
      have tri := fact_tri hp hg hi ht
      have e : decide ((dt n g i : Int) ≤ (dt n t i : Int) + (dt n g t : Int)) = true := decide_eq_true (by omega)
      show Q (.bl (decide ((dt n g i : Int) ≤ (dt n t i : Int) + (dt n g t : Int)))) HJ
      rw [e]
      exact Z HJ (dd.tr (Drw.of sm7J))
end
end Fs
/-! Flipsheets: written cuttings; rows of what is refused. -/
namespace Fs
open PySem L2 LamX PySem.Spec PyProof.Rows
section
variable {X : Cx}
/-- (a, b), written -/
theorem pe_pairL {a b : Int} {j1 j2 k : Nat} {p1 p2 pos : Pos} : PE X (.Tuple [.Constant (.int a) j1 p1, .Constant (.int b) j2 p2] k pos) (fun σ H Q => ∀ v H', Same H H' → Pr H' v (a, b) → Q v H') :=
  ⟨fun pns s σ H Q I h => (pe_tup (pa_cons pe_int (pa_cons pe_int pa_nil))).run pns s σ H Q I ⟨(by show 2 ≤ sizeLine; decide), fun t ht => h _ _ (same_new (Same.refl H) ht) ⟨t, rfl, upd_same⟩⟩⟩
theorem pa_prs_nil : PA X [] (fun σ H Q => ∀ vs H', Same H H' → Paired (Pr H') vs ([] : List P2) → Q vs H') :=
  ⟨fun pos pns s σ H Q I h => pa_nil.run pos pns s σ H Q I (h [] H (Same.refl H) .nil)⟩
theorem pa_prs_cons {e : Expr} {es : List Expr} {p : P2} {c : List P2} (he : PE X e (fun σ H Q => ∀ v H', Same H H' → Pr H' v p → Q v H')) (hes : PA X es (fun σ H Q => ∀ vs H', Same H H' → Paired (Pr H') vs c → Q vs H'))
    (hst : starEach (e :: es) X.env = (false, eval e X.env) :: starEach es X.env := by rfl) : PA X (e :: es) (fun σ H Q => ∀ vs H', Same H H' → Paired (Pr H') vs (p :: c) → Q vs H') :=
  ⟨fun pos pns s σ H Q I h => (pa_cons he hes hst).run pos pns s σ H Q I fun v H1 sm hv vs H2 sm2 hvs => h (v :: vs) H2 (sm.trans sm2) (.cons (Pr.mono _ _ _ _ (same_ts sm2) hv) hvs)⟩
/-- a cutting, written -/
theorem pe_cutL {es : List Expr} {c : List P2} {k : Nat} {pos : Pos} (hes : PA X es (fun σ H Q => ∀ vs H', Same H H' → Paired (Pr H') vs c → Q vs H')) (hl : c.length ≤ 100 := by decide) :
    PE X (.Tuple es k pos) (fun σ H Q => ∀ v H', Same H H' → Ct H' v c → Q v H') :=
  ⟨fun pns s σ H Q I h => (pe_tup hes).run pns s σ H Q I fun vs H1 sm hv => ⟨by rw [paired_len hv, sizeLine_eq]; omega, fun t ht =>
    h (.ref t) _ (sm.trans (same_new (Same.refl H1) ht)) ⟨t, vs, rfl, upd_same, pair_mono Pr.mono (ts_new ht) hv⟩⟩⟩
end
/-! ### what is refused -/
/-- a value told by data: None, an int, a row of pairs -/
def DV (H : Hp) (v : V) (d : PyData) : Prop := (v = .non ∧ d = .none) ∨ (∃ i : Int, v = .int i ∧ d = .int i) ∨ ∃ c, Ct H v c ∧ d = dC c
theorem DV.mono : Mono DV := fun H H' v d s h => by
  rcases h with h | h | ⟨c, hc, e⟩
  · exact .inl h
  · exact .inr (.inl h)
  · exact .inr (.inr ⟨c, Ct.mono _ _ _ _ s hc, e⟩)
theorem DV.dp {K : PySem.W.Frag} {H : Hp} {v : V} {d : PyData} (h : DV H v d) : Dp K H v d := by
  rcases h with ⟨rfl, rfl⟩ | ⟨i, rfl, rfl⟩ | ⟨c, hc, rfl⟩
  · exact .non
  · exact .int i
  · exact hc.dp
theorem BadV.ts {n : Int} {H H' : Hp} {v : V} (b : BadV n H v) (s : TSm H H') : BadV n H' v := by
  rcases b with e | ⟨c, hc, r⟩
  · exact .inl e
  · exact .inr ⟨c, Ct.mono _ _ _ _ s hc, r⟩
theorem BadA.ts {n : Int} {H H' : Hp} {v u b : V} (h : BadA n H v u b) (s : TSm H H') : BadA n H' v u b := by
  rcases h with h | ⟨a, a', bv, e⟩ | ⟨m, i, e, hp, hi, hc, bv, eb⟩
  · exact .inl h
  · exact .inr (.inl ⟨a, a', bv.ts s, e⟩)
  · exact .inr (.inr ⟨m, i, e, hp, hi, Ct.mono _ _ _ _ s hc, bv.ts s, eb⟩)
/-- ("parameter", d, True) -/
def tellD (d : PyData) : PyData := .tuple [.str "parameter", d, .bool true]
/-- a row of four: corners, two values, what the error bears -/
def RowOk (H : Hp) (w : V) (_ : Unit) : Prop := ∃ (t : Addr) (n : Int) (v u b b0 : V) (d : PyData), w = .ref t ∧ H t = some (.tup [.int n, v, u, b]) ∧ BadA n H v u b0 ∧ DV H b0 d ∧ DV H b d ∧ ShowOk (.list [tellD d, tellD d])
theorem RowOk.mono : Mono RowOk := fun H H' w _ s ⟨t, n, v, u, b, b0, d, e, h, ba, h0, h1, sh⟩ => ⟨t, n, v, u, b, b0, d, e, s _ _ h, ba.ts s, DV.mono _ _ _ _ s h0, DV.mono _ _ _ _ s h1, sh⟩
theorem showT {d : PyData} (h1 : d.showable = true) (h2 : d.hasDict = false) (h3 : d.depth ≤ 10) (h4 : d.leavesShort 13 = true) (h5 : d.bulk ≤ 1000) : ShowOk (.list [tellD d, tellD d]) := by
  have k1 : (PyData.str "parameter").leavesShort 13 = true := by decide +kernel
  have k2 : (PyData.str "parameter").bulk = 9 := by decide +kernel
  refine ⟨?_, ?_, ?_, PyData.shown_fits_bulk (B := 13) (by decide) (by decide) ?_ ?_⟩
  · simp [tellD, PyData.showable, PyData.showableAll, h1]
  · simp [tellD, PyData.hasDict, PyData.hasDictAll, h2]
  · simp only [tellD, PyData.depth, PyData.depthAll]
    omega
  · simp only [tellD, PyData.leavesShort, PyData.leavesShortAll] at *
    rw [h4, k1]
    rfl
  · simp only [tellD, PyData.bulk, PyData.bulkAll] at *
    rw [k2]
    have e : (2 : Nat) ^ 20 = 1048576 := (by decide)
    omega
theorem showI {i : Int} (h : smallI i = true) : ShowOk (.list [tellD (.int i), tellD (.int i)]) := by
  obtain ⟨a1, a2⟩ := leaf_small h
  exact showT a2 (by simp [PyData.hasDict]) (by simp [PyData.depth]) a1 (by simp [PyData.bulk])
theorem showN : ShowOk (.list [tellD .none, tellD .none]) := showT (by simp [PyData.showable]) (by simp [PyData.hasDict]) (by simp [PyData.depth]) (by simp [PyData.leavesShort]) (by simp [PyData.bulk])
theorem showC {c : List P2} (h : ∀ p ∈ c, smallP p = true) (hl : c.length ≤ 100) : ShowOk (.list [tellD (dC c), tellD (dC c)]) := by
  obtain ⟨c1, c2, c3, c4⟩ := okP_dC h
  exact showT c1 c2 (by have := depth_dC c; omega) c3 (by rw [c4]; omega)
end Fs
/-! Flipsheets, the law's _law_by_hand. -/
namespace Fs
open PySem L2 LamX PySem.Spec PyProof.Rows
/-- a def of the text whose code object stands at c -/
structure FunC (K : PySem.W.Frag) (x qual : Str) (st : Stmt) (f c : Addr) (fd : FuncData) : Prop where
  ex : ∃ (oc : Value) (od : Option Addr) (kV doc pm : Value) (an : Option Addr) (ct : Value) (osl : Array (Option Value)),
    fd = PySem.W.fnOf x qual (defArgs st) (defBody st) (defScope st) .none kV doc pm an (.ref c) ct ∧ K.lookup f = some ⟨oc, od, .func fd, osl⟩ ∧ PySem.W.codeIn K (.ref c) qual = true
  kp : (PySem.W.keepIn K (.ref f)) = true
section
variable
  {P : Program}
  {w : World} {K : PySem.W.Frag} {mg : Str → Option Value} {base : Heap}
theorem FunC.fun {x qual : Str} {st : Stmt} {f c : Addr} {fd : FuncData} (F : FunC K x qual st f c fd) : Fun K x qual st f fd := by
  obtain ⟨oc, od, kV, doc, pm, an, ct, osl, e, lk, hc⟩ := F.ex
  exact ⟨⟨oc, od, kV, doc, pm, an, .ref c, ct, osl, e, lk, hc⟩, F.kp⟩
theorem fun_okGc {x qual : Str} {st : Stmt} {f c : Addr} {fd : FuncData} {N ps : List Str} {k : Nat} {sp : Sp} (F : FunC K x qual st f c fd) (S : FnScope N ps (defScope st)) (len : ∀ vs H Q E, sp vs H Q E → vs.length = ps.length)
    (hbody : ∀ (A : Around) (outer : List Env) (s : Shared) (H : Hp) (vs : List V) (Q : VK) (E : XK), Room k (A.deeper (envOfC qual (defScope st) s.heap.objs.size f (.ref c))) → (A.deeper (envOfC qual (defScope st) s.heap.objs.size f (.ref c))).guards = some [] → sp vs H Q E →
      ∃ t, PSs (cxOf CX0 P w K mg base N qual (defScope st) f (.ref c) A outer s H E).nox (defBody st) t ∧ t { nx := fun _ H' => Q .non H', rt := Q } (L2.start N vs) H) : FnG P w K mg base (k + 1) f fd ps sp := by
  obtain ⟨oc, od, kV, doc, pm, an, ct, osl, rfl, lk, hcd⟩ := F.ex
  refine ⟨len, fun A outer s H args us vs Q E hr hg e0 hb r hsp => LamX.run_ofS lk hcd S hr e0 hb r (len _ _ _ _ hsp) fun hr' => ?_⟩
  obtain ⟨t, h, q⟩ := hbody A outer s H vs Q E hr' hg hsp
  exact ⟨t, h.nox, q⟩
end
/-- the lambdas' name -/
def lamQ : Str := (("_law_by_hand" : Str) ++ ".<locals>.") ++ "<lambda>"
theorem ext_ts {H H' : Hp} (e : ExtN H H') : TSm H H' := fun b xs h => e b _ h fun ps z => by cases z
theorem ext_same {H H' : Hp} (s : Same H H') : ExtN H H' := ExtN.of s
theorem tabs_lst {T : List (Addr × Str)} {H : Hp} {q : Addr} {xs : List V} {o : HO} (t : Tabs T H) (h : H q = some (.lst xs)) : Tabs T (upd H q o) := fun p hp => by
  obtain ⟨ps, h1, h2, h3⟩ := t p hp
  refine ⟨ps, by rw [upd_ne (ne_of h1 h (by intro z; cases z))]; exact h1, h2, fun pos cv hc => ?_⟩
  rcases h3 pos cv hc with ⟨c, e1, e2⟩
  exact ⟨c, e1, by rw [upd_ne (ne_of e2 h (by intro z; cases z))]; exact e2⟩
theorem row1 {H : Hp} {t : Addr} (h : H t = some (.tup [.int 2, .non, .non, .int 2])) : RowOk H (.ref t) () :=
  ⟨t, 2, .non, .non, .int 2, .int 2, .int 2, rfl, h, .inl ⟨by decide, rfl⟩, .inr (.inl ⟨2, rfl, rfl⟩), .inr (.inl ⟨2, rfl, rfl⟩), showI (by decide)⟩
theorem row2 {H : Hp} {t : Addr} {v b : V} (h : H t = some (.tup [.int 4, v, .non, b])) (hv : Ct H v [(0, 1)]) (hb : Ct H b [(0, 1)]) : RowOk H (.ref t) () :=
  ⟨t, 4, v, .non, b, v, dC [(0, 1)], rfl, h, .inr (.inl ⟨by decide, by decide, .inr ⟨_, hv, .inr ⟨by decide, (0, 1), [], rfl, by decide⟩⟩, rfl⟩), .inr (.inr ⟨_, hv, rfl⟩), .inr (.inr ⟨_, hb, rfl⟩), showC (by decide) (by decide)⟩
theorem row3 {H : Hp} {t : Addr} {v u b : V} (h : H t = some (.tup [.int 4, v, u, b])) (hv : Ct H v [(0, 2)]) (hu : Ct H u [(0, 2), (1, 3)]) (hb : Ct H b [(0, 2), (1, 3)]) : RowOk H (.ref t) () :=
  ⟨t, 4, v, u, b, u, dC [(0, 2), (1, 3)], rfl, h, .inr (.inr ⟨4, 0, rfl, .inr (.inl rfl), by decide, hv, .inr ⟨_, hu, .inl (by decide)⟩, rfl⟩), .inr (.inr ⟨_, hu, rfl⟩), .inr (.inr ⟨_, hb, rfl⟩), showC (by decide) (by decide)⟩
theorem row4 {H : Hp} {t : Addr} (h : H t = some (.tup [.int 5, .non, .int 7, .non])) : RowOk H (.ref t) () :=
  ⟨t, 5, .non, .int 7, .non, .non, .none, rfl, h, .inr (.inl ⟨by decide, by decide, .inl rfl, rfl⟩), .inl ⟨rfl, rfl⟩, .inl ⟨rfl, rfl⟩, showN⟩
theorem row5 {H : Hp} {t : Addr} {v u : V} (h : H t = some (.tup [.int 8, v, u, .int 8])) : RowOk H (.ref t) () :=
  ⟨t, 8, v, u, .int 8, .int 8, .int 8, rfl, h, .inl ⟨by decide, rfl⟩, .inr (.inl ⟨8, rfl, rfl⟩), .inr (.inl ⟨8, rfl, rfl⟩), showI (by decide)⟩
/-- [0, (), ((0, 2),), ((0, 3),)] -/
def handD : PyData := .list [.int 0, dC [], dC [(0, 2)], dC [(0, 3)]]
theorem handD_ok : ShowOk handD := by
  obtain ⟨a1, a2⟩ := leaf_small (i := 0) (by decide)
  obtain ⟨b1, b2, b3, b4⟩ := okP_dC (c := []) (by decide)
  obtain ⟨c1, c2, c3, c4⟩ := okP_dC (c := [(0, 2)]) (by decide)
  obtain ⟨d1, d2, d3, d4⟩ := okP_dC (c := [(0, 3)]) (by decide)
  refine ⟨?_, ?_, ?_, PyData.shown_fits_bulk (B := 13) (by decide) (by decide) ?_ ?_⟩
  · simp only [handD, PyData.showable, PyData.showableAll] at *
    rw [a2, b1, c1, d1]
    rfl
  · simp only [handD, PyData.hasDict, PyData.hasDictAll]
    rw [b2, c2, d2]
    rfl
  · have x1 := depth_dC []
    have x2 := depth_dC [(0, 2)]
    have x3 := depth_dC [(0, 3)]
    simp only [handD, PyData.depth, PyData.depthAll]
    omega
  · simp only [handD, PyData.leavesShort, PyData.leavesShortAll] at *
    rw [a1, b3, c3, d3]
    rfl
  · simp only [handD, PyData.bulk, PyData.bulkAll]
    rw [b4, c4, d4]
    decide
section
variable {P : Program} {w : World} {K : PySem.W.Frag} {mg : Str → Option Value} {base : Heap} {C fI CS CN CF : Addr}
abbrev sHand : Stmt := top 34
def spHand (Pt : Addr) : Sp := fun vs H Q _ => vs = [] ∧ Tabs [(Pt, lamQ)] H ∧ ∀ H', Q (.bl true) H'
abbrev NHand : List Str := ["_law_got", "_law_asked", "_law_many_so", "_law_start", "_law_goal", "_law_due"]
theorem scHand : FnScope NHand [] (defScope sHand) := ⟨rfl, rfl, rfl, by decide +kernel, rfl, by decide +kernel, by decide +kernel⟩
theorem ok_hand {f c Pt fh : Addr} {fd fdh : FuncData} (B : Blt mg) (T : BadTxt P K mg C fI) (HT : HeardTxt K mg C CS CN CF) (TB : TabB base mg c Pt)
    (GA : Has P w K mg base (L2.CX P w) 5 "flips_apart" ["corners", "one", "other"] (spApart C)) (GB : Has P w K mg base (L2.CX P w) 5 "flips_between" ["corners", "one", "other"] (spBetw C))
    (GL : HasG P w K mg base 1 "_law_like" ["_law_got", "_law_due"] (spLike K)) (DH : Df K mg "_law_heard" sHeard fh fdh)
    (D : FunC K "_law_by_hand" "_law_by_hand" sHand f c fd) : FnG P w K mg base 8 f fd [] (spHand Pt) := by
  refine fun_okGc D scHand (fun vs H Q E h => ?_) (fun A outer s H vs Q E hr hgd h => ?_)
  · rw [h.1]; rfl
  · obtain ⟨rfl, hT, Z⟩ := h
    have hu := hr.units
    have r1 := hr.mono (j := 1) (by decide)
    have r5 := hr.mono (j := 5) (by decide)
    have bH := DH.fn.binds (ps := ["_law_call"]) fun _ _ _ _ _ _ us hl => match us, hl with | [_], _ => rfl
    have gH := DH.g
    have kH := DH.fn.kp
    obtain ⟨oc, od, kV, doc, pm, an, cdv, ct, osl, rfl, lkH, hcH⟩ := DH.fn.ex
    have huT : ∀ p ∈ [(Pt, lamQ)], p.1 = Pt → p.2 = lamQ := fun p hp _ => by rw [List.mem_singleton.mp hp]
    refine ⟨_, pss_cons (ps_set (i := 0) scHand.nd rfl (.inl rfl) (pe_lst (pa_cons (pe_has GA r5 rfl passL (pa_cons pe_int (pa_cons (pe_cutL pa_prs_nil) (pa_cons (pe_cutL pa_prs_nil) pa_nil))))
        (pa_cons (pe_has GB r5 rfl passL (pa_cons pe_int (pa_cons (pe_cutL pa_prs_nil) (pa_cons (pe_cutL pa_prs_nil) pa_nil)))) (pa_cons (pe_has GB r5 rfl passL (pa_cons pe_int (pa_cons (pe_cutL (pa_prs_cons pe_pairL pa_prs_nil)) (pa_cons (pe_cutL (pa_prs_cons pe_pairL pa_prs_nil)) pa_nil)))) pa_nil)))))
      (pss_cons (ps_set (i := 0) scHand.nd rfl (.inl rfl) (pe_op op_cat (pv 0) (pe_lst (pa_cons (pe_has GB r5 rfl passL (pa_cons pe_int (pa_cons (pe_cutL (pa_prs_cons pe_pairL (pa_prs_cons pe_pairL pa_prs_nil))) (pa_cons (pe_cutL (pa_prs_cons pe_pairL (pa_prs_cons pe_pairL pa_prs_nil))) pa_nil)))) pa_nil))))
      (pss_cons (ps_if (pt_not (pt_val (pe_hasG GL r1 hgd rfl (pa_cons (pv 0) (pa_cons (pe_lst (pa_cons pe_int (pa_cons (pe_cutL pa_prs_nil) (pa_cons (pe_cutL (pa_prs_cons pe_pairL pa_prs_nil)) (pa_cons (pe_cutL (pa_prs_cons pe_pairL pa_prs_nil)) pa_nil))))) pa_nil))))) (pss_one (ps_ret pe_bl)) pss_nil)
      (pss_cons (ps_set (i := 1) scHand.nd rfl (.inl rfl) (pe_lst (pa_cons (pe_tup (pa_cons pe_int (pa_cons pe_non (pa_cons pe_non (pa_cons pe_int pa_nil)))))
          (pa_cons (pe_tup (pa_cons pe_int (pa_cons (pe_cutL (pa_prs_cons pe_pairL pa_prs_nil)) (pa_cons pe_non (pa_cons (pe_cutL (pa_prs_cons pe_pairL pa_prs_nil)) pa_nil)))))
          (pa_cons (pe_tup (pa_cons pe_int (pa_cons (pe_cutL (pa_prs_cons pe_pairL pa_prs_nil)) (pa_cons (pe_cutL (pa_prs_cons pe_pairL (pa_prs_cons pe_pairL pa_prs_nil))) (pa_cons (pe_cutL (pa_prs_cons pe_pairL (pa_prs_cons pe_pairL pa_prs_nil))) pa_nil))))) pa_nil)))))
      (pss_cons (ps_for PassesOwn.never rfl (pi_list (pe_op op_cat (pv 1) (pe_lst (pa_cons (pe_tup (pa_cons pe_int (pa_cons pe_non (pa_cons pe_int (pa_cons pe_non pa_nil))))) (pa_cons (pe_tup (pa_cons pe_int (pa_cons (pe_cutL pa_prs_nil) (pa_cons (pe_cutL pa_prs_nil) (pa_cons pe_int pa_nil))))) pa_nil)))))
          (pg_tup rfl (pgs_cons (pg_name (i := 2) scHand.nd rfl (.inr rfl)) (pgs_cons (pg_name (i := 3) scHand.nd rfl (.inr rfl)) (pgs_cons (pg_name (i := 4) scHand.nd rfl (.inr rfl)) (pgs_cons (pg_name (i := 5) scHand.nd rfl (.inl rfl)) pgs_nil)))))
        (pss_cons (ps_set (i := 0) scHand.nd rfl (.inl rfl) (pe_lst (pa_cons (pe_lamcall (T := [(Pt, lamQ)]) (TT := TTbad C) (Ng := NHeard) (k := 5) (t := fun E => tCall (spApart C) [] E (tCons (tVar 2) (tCons (tVar 3) (tCons (tVar 4) tNil))))
            (by rfl) gH kH lkH hcH bH scHeard rfl (.inl rfl) (heard_gives B T HT) TB rfl List.mem_cons_self huT hr (show LamS (defScope sHand) _ from lamS_by (by decide +kernel)) rfl (fun _ _ _ _ _ => rfl)
            (fun A outer s H E f c' hr5 => pe_has GA hr5 rfl (passes_call (takes_of rfl rfl rfl rfl) fun _ _ _ _ h => h) (pa_cons (pv 2) (pa_cons (pv 3) (pa_cons (pv 4) pa_nil))))) pa_nil)))
        (pss_cons (ps_expr (pe_bm PySem.F.plainAttrs_list PySem.F.slot_list_append PySem.F.type_list_append mt_append (pv 0) (pa_cons (pe_lamcall (T := [(Pt, lamQ)]) (TT := TTbad C) (Ng := NHeard) (k := 5) (t := fun E => tCall (spBetw C) [] E (tCons (tVar 2) (tCons (tVar 3) (tCons (tVar 4) tNil))))
            (by rfl) gH kH lkH hcH bH scHeard rfl (.inl rfl) (heard_gives B T HT) TB rfl List.mem_cons_self huT hr (show LamS (defScope sHand) _ from lamS_by (by decide +kernel)) rfl (fun _ _ _ _ _ => rfl)
            (fun A outer s H E f c' hr5 => pe_has GB hr5 rfl (passes_call (takes_of rfl rfl rfl rfl) fun _ _ _ _ h => h) (pa_cons (pv 2) (pa_cons (pv 3) (pa_cons (pv 4) pa_nil))))) pa_nil)))
        (pss_one (ps_if (pt_not (pt_val (pe_hasG GL r1 hgd rfl (pa_cons (pv 0) (pa_cons (pe_op op_rep (pe_lst (pa_cons (pe_tup (pa_cons pe_str (pa_cons (pv 5) (pa_cons pe_bl pa_nil)))) pa_nil)) pe_int) pa_nil))))) (pss_one (ps_ret pe_bl)) pss_nil)))))
      (pss_one (ps_ret pe_bl)))))), ?_⟩
    have p3 : Poly 3 := .inl rfl
    have p4 : Poly 4 := .inr (.inl rfl)
    have p5 : Poly 5 := .inr (.inr (.inl rfl))
    -- what is told of triangles, squares and a pentagon
    refine fun v1 H1 sm1 c1 v2 H2 sm2 c2 => ⟨3, v1, v2, rfl, .inl ⟨3, 0, 0, rfl, p3, by decide, by decide, Ct.mono _ _ _ _ (same_ts sm2) c1, c2, fun H3 sm3 => ?_⟩⟩
    refine fun v3 H4 sm4 c3 v4 H5 sm5 c4 => ⟨3, v3, v4, rfl, .inl ⟨3, 0, 0, rfl, p3, by decide, by decide, Ct.mono _ _ _ _ (same_ts sm5) c3, c4, fun H6 ra sm6 hra => ?_⟩⟩
    refine fun v5 H7 sm7 c5 v6 H8 sm8 c6 => ⟨4, v5, v6, rfl, .inl ⟨4, 0, 1, rfl, p4, by decide, by decide, Ct.mono _ _ _ _ (same_ts sm8) c5, c6, fun H9 rb sm9 hrb => ⟨(by show 3 ≤ sizeLine; decide), fun q hq => ?_⟩⟩⟩
    have e1 : (dt 3 0 0 : Int) = 0 := by decide
    have e2 : rowN 3 0 13 0 = [] := by decide +kernel
    have e3 : rowN 4 1 13 0 = [(0, 2)] := by decide +kernel
    have e4 : rowN 5 1 13 0 = [(0, 3)] := by decide +kernel
    rw [e1]
    rw [e2] at hra
    rw [e3] at hrb
    have smA := same_new (o := .lst [.int 0, ra, rb]) (Same.refl H9) hq
    have hra := Ct.mono _ _ _ _ (same_ts ((sm7.trans (sm8.trans sm9)).trans smA)) hra
    have hrb := Ct.mono _ _ _ _ (same_ts smA) hrb
    have hgq : upd H9 q (.lst [.int 0, ra, rb]) q = some (.lst [.int 0, ra, rb]) := upd_same
    have smB := sm1.trans (sm2.trans (sm3.trans (sm4.trans (sm5.trans (sm6.trans (sm7.trans (sm8.trans (sm9.trans smA))))))))
    have hTB : Tabs [(Pt, lamQ)] (upd H9 q (.lst [.int 0, ra, rb])) := hT.ext smB
    clear smB smA sm1 sm2 sm3 sm4 sm5 sm6 sm7 sm8 sm9 hq
    generalize upd H9 q (.lst [.int 0, ra, rb]) = HB at *
    refine ⟨_, rfl, fun v7 HC smC c7 v8 HD smD c8 => ⟨5, v7, v8, rfl, .inl ⟨5, 0, 1, rfl, p5, by decide, by decide, Ct.mono _ _ _ _ (same_ts smD) c7, c8, fun HE rc smE hrc => ⟨(by show 1 ≤ sizeLine; decide), fun l hl => ?_⟩⟩⟩⟩
    rw [e4] at hrc
    have smF := smC.trans (smD.trans smE)
    refine ⟨q, l, _, [rc], rfl, rfl, (same_new smF hl) _ _ hgq, upd_same, (by rw [sizeLine_eq]; show 4 ≤ _; decide), fun p hp => ?_⟩
    have smG := same_new (o := .lst ([.int 0, ra, rb] ++ [rc])) (same_new (o := .lst [rc]) (Same.refl HE) hl) hp
    have smH := smF.trans smG
    have hra := Ct.mono _ _ _ _ (same_ts smH) hra
    have hrb := Ct.mono _ _ _ _ (same_ts smH) hrb
    have hrc := Ct.mono _ _ _ _ (same_ts smG) hrc
    have hT2 := hTB.ext smH
    have hgp : upd (upd HE l (.lst [rc])) p (.lst ([.int 0, ra, rb] ++ [rc])) p = some (.lst [.int 0, ra, rb, rc]) := upd_same
    clear smH smG smF smC smD smE hTB hT hl hp hgq
    generalize upd (upd HE l (.lst [rc])) p (.lst ([.int 0, ra, rb] ++ [rc])) = HI at *
    -- alike
    refine ⟨_, rfl, fun w1 H1 sm1 d1 w2 H2 sm2 d2 w3 H3 sm3 d3 => ⟨(by show 4 ≤ sizeLine; decide), fun p2 hp2 => ?_⟩⟩
    have sm4 := same_new (o := .lst [.int 0, w1, w2, w3]) (Same.refl H3) hp2
    have sm5 := sm1.trans (sm2.trans (sm3.trans sm4))
    refine ⟨.ref p, .ref p2, rfl, .inr ⟨p, p2, handD, rfl, rfl, .lst (SqL.of (sm5 _ _ hgp)) (.cons (.int 0) (.cons (Ct.mono _ _ _ _ (same_ts sm5) hra).dp (.cons (Ct.mono _ _ _ _ (same_ts sm5) hrb).dp (.cons (Ct.mono _ _ _ _ (same_ts sm5) hrc).dp .nil)))),
      .lst (SqL.of upd_same) (.cons (.int 0) (.cons (Ct.mono _ _ _ _ (same_ts (sm2.trans (sm3.trans sm4))) d1).dp (.cons (Ct.mono _ _ _ _ (same_ts (sm3.trans sm4)) d2).dp (.cons (Ct.mono _ _ _ _ (same_ts sm4) d3).dp .nil)))), handD_ok⟩, _, rfl, iteF ?_⟩
    have hT3 := hT2.ext sm5
    clear sm5 sm4 sm1 sm2 sm3 hgp hra hrb hrc hT2 d1 d2 d3
    generalize upd H3 p2 (.lst [.int 0, w1, w2, w3]) = H4 at *
    -- the rows
    refine ⟨(by show 4 ≤ sizeLine; decide), fun t1 ht1 => ?_⟩
    refine fun w4 H5 sm5 d4 w5 H6 sm6 d5 => ⟨(by show 4 ≤ sizeLine; decide), fun t2 ht2 => ?_⟩
    refine fun w6 H7 sm7 d6 w7 H8 sm8 d7 w8 H9 sm9 d8 => ⟨(by show 4 ≤ sizeLine; decide), fun t3 ht3 => ⟨(by show 3 ≤ sizeLine; decide), fun l hl => ?_⟩⟩
    have k1 := same_new (o := .tup [.int 2, .non, .non, .int 2]) (Same.refl H4) ht1
    have k2 := same_new (o := .tup [.int 4, w4, .non, w5]) (Same.refl H6) ht2
    have k3 := same_new (o := .tup [.int 4, w6, w7, w8]) (Same.refl H9) ht3
    have k4 := same_new (o := .lst [.ref t1, .ref t2, .ref t3]) (Same.refl _) hl
    have k34 := k3.trans k4
    have k24 := k2.trans (sm7.trans (sm8.trans (sm9.trans k34)))
    have R1 := RowOk.mono _ _ _ _ (same_ts (sm5.trans (sm6.trans k24))) (row1 (H := upd H4 t1 (.tup [.int 2, .non, .non, .int 2])) upd_same)
    have R2 := RowOk.mono _ _ _ _ (same_ts (sm7.trans (sm8.trans (sm9.trans k34)))) (row2 (H := upd H6 t2 (.tup [.int 4, w4, .non, w5])) upd_same (Ct.mono _ _ _ _ (same_ts (sm6.trans k2)) d4) (Ct.mono _ _ _ _ (same_ts k2) d5))
    have R3 := RowOk.mono _ _ _ _ (same_ts k4) (row3 (H := upd H9 t3 (.tup [.int 4, w6, w7, w8])) upd_same (Ct.mono _ _ _ _ (same_ts (sm8.trans (sm9.trans k3))) d6) (Ct.mono _ _ _ _ (same_ts (sm9.trans k3)) d7) (Ct.mono _ _ _ _ (same_ts k3) d8))
    have hT4 := hT3.ext (k1.trans (sm5.trans (sm6.trans k24)))
    have hl1 : upd (upd H9 t3 (.tup [.int 4, w6, w7, w8])) l (.lst [.ref t1, .ref t2, .ref t3]) l = some (.lst [.ref t1, .ref t2, .ref t3]) := upd_same
    clear k24 k34 k4 k3 k2 k1 sm5 sm6 sm7 sm8 sm9 ht1 ht2 ht3 hl hT3 d4 d5 d6 d7 d8
    generalize upd (upd H9 t3 (.tup [.int 4, w6, w7, w8])) l (.lst [.ref t1, .ref t2, .ref t3]) = HA at *
    refine ⟨_, rfl, (by show 4 ≤ sizeLine; decide), fun t4 ht4 => fun w9 H1 sm1 d9 wA H2 sm2 dA => ⟨(by show 4 ≤ sizeLine; decide), fun t5 ht5 => ⟨(by show 2 ≤ sizeLine; decide), fun l2 hl2 => ?_⟩⟩⟩
    have k1 := same_new (o := .tup [.int 5, .non, .int 7, .non]) (Same.refl HA) ht4
    have k2 := same_new (o := .tup [.int 8, w9, wA, .int 8]) (Same.refl H2) ht5
    have k3 := same_new (o := .lst [.ref t4, .ref t5]) (Same.refl _) hl2
    have k13 := k1.trans (sm1.trans (sm2.trans (k2.trans k3)))
    refine ⟨l, l2, _, _, rfl, rfl, k13 _ _ hl1, upd_same, (by rw [sizeLine_eq]; show 5 ≤ _; decide), fun l3 hl3 => ?_⟩
    have k4 := same_new (o := .lst ([.ref t1, .ref t2, .ref t3] ++ [.ref t4, .ref t5])) (Same.refl _) hl3
    have k14 := k13.trans k4
    have R1 := RowOk.mono _ _ _ _ (same_ts k14) R1
    have R2 := RowOk.mono _ _ _ _ (same_ts k14) R2
    have R3 := RowOk.mono _ _ _ _ (same_ts k14) R3
    have R4 := RowOk.mono _ _ _ _ (same_ts (sm1.trans (sm2.trans (k2.trans (k3.trans k4))))) (row4 (H := upd HA t4 (.tup [.int 5, .non, .int 7, .non])) upd_same)
    have R5 := RowOk.mono _ _ _ _ (same_ts (k3.trans k4)) (row5 (H := upd H2 t5 (.tup [.int 8, w9, wA, .int 8])) upd_same)
    have hT5 := hT4.ext k14
    have hl4 : upd (upd (upd H2 t5 (.tup [.int 8, w9, wA, .int 8])) l2 (.lst [.ref t4, .ref t5])) l3 (.lst ([.ref t1, .ref t2, .ref t3] ++ [.ref t4, .ref t5])) l3 = some (.lst [.ref t1, .ref t2, .ref t3, .ref t4, .ref t5]) := upd_same
    clear k14 k4 k13 k3 k2 k1 sm1 sm2 ht4 ht5 hl2 hl3 hT4 hl1 d9 dA
    generalize upd (upd (upd H2 t5 (.tup [.int 8, w9, wA, .int 8])) l2 (.lst [.ref t4, .ref t5])) l3 (.lst ([.ref t1, .ref t2, .ref t3] ++ [.ref t4, .ref t5])) = HZ at *
    have rows : Paired (RowOk HZ) [.ref t1, .ref t2, .ref t3, .ref t4, .ref t5] [(), (), (), (), ()] := .cons R1 (.cons R2 (.cons R3 (.cons R4 (.cons R5 .nil))))
    clear R1 R2 R3 R4 R5
    refine ⟨l3, rfl, ⟨_, SqL.of hl4⟩, for_list (K := K) (a := l3) (xs := [.ref t1, .ref t2, .ref t3, .ref t4, .ref t5]) (fun i σ H' => (∃ s0 s2 s3 s4 s5, σ = [s0, some (.ref l), s2, s3, s4, s5]) ∧ ExtN HZ H' ∧ Tabs [(Pt, lamQ)] H')
      ⟨⟨_, none, none, none, none, rfl⟩, ExtN.refl HZ, hT5⟩ (fun i σ H' _ ⟨_, e, _⟩ => SqL.of (e _ _ hl4 fun ps z => by cases z)) ?_ ?_⟩
    · rintro i y σ H1 hi ⟨⟨s0, s2, s3, s4, s5, rfl⟩, x1, hT1⟩
      obtain ⟨_, _, hy⟩ := L2.paired_get rows hi
      obtain ⟨t, n, v, u, b, b0, d, rfl, ht, hba, hd0, hd1, hsh⟩ := RowOk.mono _ _ _ _ (ext_ts x1) hy
      refine ⟨t, _, rfl, SqT.of ht, rfl, _, _, rfl, _, _, rfl, _, _, rfl, _, _, rfl, rfl, ?_⟩
      -- flips_apart, refused
      refine ⟨hT1, fun H2 x2 hT2 Q' => ⟨_, rfl, _, rfl, _, rfl, n, v, u, rfl, .inr ⟨b0, hba.ts (ext_ts x2), fun H3 e1 sm3 he1 => ⟨rfl, e1, b0, rfl, upd_same, fun H4 a1 sm4 ha1 => ⟨(by show 1 ≤ sizeLine; decide), fun q hq => ?_⟩⟩⟩⟩⟩
      have k1 := sm3.trans ((same_new (o := .xd [(("value" : Str), b0)]) (Same.refl H3) he1).trans sm4)
      have k2 := same_new (o := .lst [.ref a1]) (Same.refl H4) hq
      have x4 := x2.trans (ext_same k1)
      have fresh : ∀ b o, H1 b = some o → (∀ ps, o ≠ .tbl ps) → b ≠ q := fun b o h n => ne_of_none (x4 _ _ h n) hq
      have x5 := x4.trans (ext_same k2)
      have hT5 := hT2.ext (k1.trans k2)
      have ha5 := k2 _ _ ha1
      have hq5 : upd H4 q (.lst [.ref a1]) q = some (.lst [.ref a1]) := upd_same
      clear k1 k2 x4 x2 hT2 sm3 sm4 he1 ha1 hq
      generalize upd H4 q (.lst [.ref a1]) = H5 at *
      -- flips_between, refused
      refine ⟨_, rfl, .inl ⟨rfl, _, SqL.of hq5⟩, hT5, fun H6 x6 hT6 Q' => ⟨_, rfl, _, rfl, _, rfl, n, v, u, rfl, .inr ⟨b0, hba.ts (ext_ts (x5.trans x6)), fun H7 e2 sm7 he2 => ⟨rfl, e2, b0, rfl, upd_same, fun H8 a2 sm8 ha2 => ?_⟩⟩⟩⟩
      have k1 := sm7.trans ((same_new (o := .xd [(("value" : Str), b0)]) (Same.refl H7) he2).trans sm8)
      have x8 := x6.trans (ext_same k1)
      have hq8 := x8 _ _ hq5 fun ps z => by cases z
      have ha8 := x8 _ _ ha5 fun ps z => by cases z
      have hT8 := hT6.ext k1
      have x18 := x5.trans x8
      refine ⟨q, [.ref a1], .ref a2, rfl, rfl, hq8, (by rw [sizeLine_eq]; show 1 < _; decide), ?_⟩
      have hT9 : Tabs [(Pt, lamQ)] (upd H8 q (.lst ([.ref a1] ++ [.ref a2]))) := tabs_lst hT8 hq8
      have ts9 : TSm H8 (upd H8 q (.lst ([.ref a1] ++ [.ref a2]))) := ts_lst hq8
      have x9 : ExtN H1 (upd H8 q (.lst ([.ref a1] ++ [.ref a2]))) := fun b o h n => by
        rw [upd_ne (fresh b o h n)]
        exact x18 b o h n
      have ha9 := ts9 _ _ ha8
      have hb9 := ts9 _ _ ha2
      have hq9 : upd H8 q (.lst ([.ref a1] ++ [.ref a2])) q = some (.lst [.ref a1, .ref a2]) := upd_same
      clear k1 x8 x6 x5 x18 hT6 hT8 hq8 ha8 ha2 ha5 hq5 hT5 fresh sm7 sm8 he2 ts9
      generalize upd H8 q (.lst ([.ref a1] ++ [.ref a2])) = H9 at *
      -- alike
      refine ⟨_, rfl, _, rfl, (by show 3 ≤ sizeLine; decide), fun a3 ha3 => ⟨(by show 1 ≤ sizeLine; decide), fun l5 hl5 => ⟨l5, 2, [.ref a3], rfl, rfl, upd_same, by decide, by decide, (by rw [sizeLine_eq]; show 1 * 2 ≤ _; decide), fun l6 hl6 => ?_⟩⟩⟩
      have k1 := same_new (o := .tup [.str "parameter", b, .bl true]) (Same.refl H9) ha3
      have k2 := same_new (o := .lst [.ref a3]) (Same.refl _) hl5
      have k3 := same_new (o := .lst (List.replicate (2 : Int).toNat [V.ref a3]).flatten) (Same.refl _) hl6
      have k13 := k1.trans (k2.trans k3)
      have ts13 := same_ts k13
      have hd0' := DV.mono _ _ _ _ ts13 (DV.mono _ _ _ _ (ext_ts x9) hd0)
      have hd1' := DV.mono _ _ _ _ ts13 (DV.mono _ _ _ _ (ext_ts x9) hd1)
      have hc3 := (same_ts (k2.trans k3)) a3 _ upd_same
      have tell : ∀ {H : Hp} {a : Addr} {x : V}, H a = some (.tup [.str "parameter", x, .bl true]) → DV H x d → Dp K H (.ref a) (tellD d) := fun h hd => .tup (SqT.of h) (.cons (.str _) (.cons hd.dp (.cons (.bl true) .nil)))
      refine ⟨.ref q, .ref l6, rfl, .inr ⟨q, l6, .list [tellD d, tellD d], rfl, rfl, .lst (SqL.of (k13 _ _ hq9)) (.cons (tell (k13 _ _ ha9) hd0') (.cons (tell (k13 _ _ hb9) hd0') .nil)),
        .lst (SqL.of (show _ = some (HO.lst [.ref a3, .ref a3]) from upd_same)) (.cons (tell hc3 hd1') (.cons (tell hc3 hd1') .nil)), hsh⟩, _, rfl, iteF ?_⟩
      exact ⟨⟨_, _, _, _, _, rfl⟩, x1.trans (x9.trans (ext_same k13)), hT9.ext k13⟩
    · rintro σ H1 _
      exact Z H1
end
end Fs
/-! Flipsheets: law; the end. -/
namespace Fs
open PySem L2 LamX PySem.Spec PyProof.Rows
section
variable
  {P : Program}
  {w : World} {K : PySem.W.Frag} {mg : Str → Option Value} {base : Heap}
abbrev sLaw : Stmt := top 35
def spLaw (K : PySem.W.Frag) (Pt : Addr) : Sp := fun vs H Q _ => ∃ (a : Addr) (ns : List Int), vs = [.ref a] ∧ SqL K H a (ns.map V.int) ∧ ns.length ≤ 63 ∧ Tabs [(Pt, lamQ)] H ∧ ∀ H', Q (.bl true) H'
abbrev NLaw : List Str := ["_law_script", "_law_state"]
theorem scLaw : FnScope NLaw ["_law_script"] (defScope sLaw) := ⟨rfl, rfl, rfl, by decide +kernel, rfl, by decide +kernel, by decide +kernel⟩
theorem Tabs.drw {T : List (Addr × Str)} {H H' : Hp} {st pc pl : Addr} {a : Int} (t : Tabs T H) (s : StOk H st pc pl a) (d : Drw st pl H H') : Tabs T H' := fun p hp => by
  obtain ⟨_, ls, _, el, _⟩ := s.l
  have key : ∀ b o, H b = some o → (∀ ks, o ≠ .dK ks) → (∀ xs, o ≠ .lst xs) → H' b = some o := fun b o h n1 n2 =>
    d b o (fun z => by rw [z, s.d] at h; cases h; exact n1 _ rfl) (fun z => by rw [z, el] at h; cases h; exact n2 _ rfl) h
  obtain ⟨ps, h1, h2, h3⟩ := t p hp
  refine ⟨ps, key _ _ h1 (fun ks z => by cases z) (fun xs z => by cases z), h2, fun pos cv hc => ?_⟩
  rcases h3 pos cv hc with ⟨c, e1, e2⟩
  exact ⟨c, e1, key _ _ e2 (fun ks z => by unfold CodeO at z; cases z) (fun xs z => by unfold CodeO at z; cases z)⟩
theorem ok_law {f Pt : Addr} {fd : FuncData} (GB : Has P w K mg base CX0 1 "_law_begin" ["_law_script"] (spBegin K)) (GR : HasG P w K mg base 6 "_law_right" ["_law_state"] spRight) (GH : HasG P w K mg base 8 "_law_by_hand" [] (spHand Pt))
    (D : Fun K "law" "law" sLaw f fd) : FnG P w K mg base 9 f fd ["_law_script"] (spLaw K Pt) := by
  refine fun_okG D scLaw (fun vs H Q E h => ?_) (fun cdv A outer s H vs Q E hr hgd h => ?_)
  · obtain ⟨a, ns, rfl, _⟩ := h
    rfl
  · obtain ⟨a, ns, rfl, ha, hl, hT, Z⟩ := h
    refine ⟨_, pss_cons (ps_set (i := 1) scLaw.nd rfl (.inl rfl) (pe_has GB (hr.mono (by decide)) rfl pass0 (pa_cons (pv 0) pa_nil)))
      (pss_one (ps_ret (pe_and (pe_hasG GR (hr.mono (by decide)) hgd rfl (pa_cons (pv 1) pa_nil)) (pe_one (pe_hasG0 GH hr hgd rfl))))), ?_⟩
    refine ⟨_, rfl, a, ns, rfl, ha, hl, fun H1 st pc pl sm1 so1 => ?_⟩
    refine ⟨_, rfl, st, pc, pl, rfl, so1, fun H2 d2 => ⟨true, rfl, iteT ⟨rfl, Tabs.drw (hT.ext sm1) so1 d2, fun H3 => Z H3⟩⟩⟩
end
/-! ### the call of the law -/
/-- what is tracked at the start: the script (unless it stands in the written part), the lambdas' table -/
def startH (K : PySem.W.Frag) (a Pt : Addr) (o : Obj) (ns : List Int) : Hp := fun b =>
  if b = Pt then some (.tbl #[]) else if b = a then (if (K.lookup a).isNone = true then some (.frz o (.lst (ns.map V.int))) else none) else none
section
variable {P : Program} {w : World} {K : PySem.W.Frag} {mg mb : Str → Option Value} {fa a c Pt : Addr} {fd : FuncData} {s : Shared} {vs : List Value} {ns : List Int}
theorem law_callG (KX : K.In s.heap) (hns : s.heap.Ns mainGlobals mg) (hmb : s.heap.Ns builtinsNs mb) (hbb : ∀ x : Str, x ≠ "__name__" → mb x = bootBuiltins x) (hlim : s.heap.NoLimit) (hgen : s.gens = #[])
    (hP : s.heap.get? Pt = some { cls := .none, data := .fields #[] }) (nP : K.lookup Pt = none) (hC : PySem.W.CodeHd s.heap c Pt)
    (hbm : ∃ (bm : Addr) (ob : Obj), mg "__builtins__" = some (.ref bm) ∧ bm ≠ builtinsNs ∧ s.heap.get? bm = some ob ∧ ob.cls = .type "module" ∧ ob.dict = some builtinsNs ∧ ob.data = .plain)
    (ha : s.heap.get? a = some { cls := .type "list", data := .seq vs.toArray }) (hi : IntsAre vs ns) (hl : ns.length ≤ 63)
    (F : ∀ base : Heap, K.In base → base.Ns mainGlobals mg → TabB base mg c Pt → FnG P w K mg base 9 fa fd ["_law_script"] (spLaw K Pt)) (hbind : ∀ (s : Shared) (u : Value), BindsTo s fd ⟨[u], []⟩ [("_law_script", u)]) :
    codeAny (model P w) callerA (.call (.ref fa) ⟨[.ref a], []⟩) (fun r s' => r = .ok (.ret (.bool true)) ∧ OldK s.heap s'.heap ∧ s'.os = s.os ∧ AllBare s'.gens) s := by
  have rv := vals_ints hi
  have hvl := hi.length
  have naP : a ≠ Pt := fun z => by
    rw [z, hP] at ha
    have y := congrArg Obj.data (Option.some.inj ha)
    cases y
  have hzl : ns.length ≤ sizeLine := by rw [sizeLine_eq]; omega
  -- what is tracked
  have tP : startH K a Pt { cls := .type "list", data := .seq vs.toArray } ns Pt = some (.tbl #[]) := if_pos rfl
  have tA : startH K a Pt { cls := .type "list", data := .seq vs.toArray } ns a = if (K.lookup a).isNone = true then some (.frz { cls := .type "list", data := .seq vs.toArray } (.lst (ns.map V.int))) else none := (if_neg naP).trans (if_pos rfl)
  have tO : ∀ b, b ≠ Pt → b ≠ a → startH K a Pt { cls := .type "list", data := .seq vs.toArray } ns b = none := fun b h1 h2 => (if_neg h1).trans (if_neg h2)
  have hS : SqL K (startH K a Pt { cls := .type "list", data := .seq vs.toArray } ns) a (ns.map V.int) := by
    cases hk : K.lookup a with
    | none => exact .inl (.inr ⟨_, by rw [tA, hk]; exact if_pos rfl⟩)
    | some o =>
      have e := KX a o hk
      rw [ha] at e
      cases e
      exact .inr ⟨_, vs.toArray, _, hk, rfl, rfl, rfl, (by rw [List.size_toArray, hvl]; exact hzl), (by simpa using rv)⟩
  have hok : HOk P w (startH K a Pt { cls := .type "list", data := .seq vs.toArray } ns) s.heap := fun b u e => by
    by_cases h1 : b = Pt
    · subst h1
      rw [tP] at e
      cases e
      exact hP
    · by_cases h2 : b = a
      · subst h2
        rw [tA] at e
        split at e
        · cases e
          exact ⟨ha, (by rw [List.length_map]; exact hzl), vs, _, rv, ha⟩
        · cases e
      · rw [tO b h1 h2] at e
        cases e
  -- what is not
  have off : ∀ {b : Addr} {o : Obj}, s.heap.get? b = some o → (∀ xs n, o.data ≠ .seq xs n) → o.data ≠ .fields #[] → startH K a Pt { cls := .type "list", data := .seq vs.toArray } ns b = none := fun {b o} e h1 h2 => by
    refine tO b (fun z => ?_) fun z => ?_
    · rw [z, hP] at e
      cases e
      exact h2 rfl
    · rw [z, ha] at e
      cases e
      exact h1 _ _ rfl
  have offK : ∀ {b : Addr} {o : Obj}, K.lookup b = some o → startH K a Pt { cls := .type "list", data := .seq vs.toArray } ns b = none := fun {b o} e => by
    by_cases h1 : b = Pt
    · rw [h1, nP] at e
      cases e
    · by_cases h2 : b = a
      · rw [h2, tA, ← h2, e]
        rfl
      · exact tO b h1 h2
  generalize startH K a Pt { cls := .type "list", data := .seq vs.toArray } ns = H at *
  have put : ∀ {b : Addr} {o : Obj}, s.heap.get? b = some o → (∀ xs n, o.data ≠ .seq xs n) → o.data ≠ .fields #[] → (hidT s.heap H).get? b = some o := fun e h1 h2 => hidT_get e (off e h1 h2)
  have nsK : ∀ {b : Addr} {m : Str → Option Value}, s.heap.Ns b m → (hidT s.heap H).Ns b m := fun {b m} n => by
    obtain ⟨o, es, ep, e, d, r⟩ := n
    exact ⟨o, es, ep, put e (fun xs n z => by rw [d] at z; cases z) (fun z => by rw [d] at z; cases z), d, r⟩
  have hKb : K.In (hidT s.heap H) := fun b o e => hidT_get (KX b o e) (offK e)
  have hM : L2.Mod K mg (hidT s.heap H) := ⟨hKb, nsK hns, ⟨mb, nsK hmb, hbb⟩, let ⟨mc, h1, h2⟩ := hlim; ⟨mc, nsK h1, h2⟩⟩
  have TB : TabB (hidT s.heap H) mg c Pt := by
    refine ⟨?_, ?_, fun z => ?_⟩
    · obtain ⟨o, us, file, tf, flags, tg, inF, text, tt, e1, r1, r2, r3, r⟩ := hC
      exact ⟨o, us, file, tf, flags, tg, inF, text, tt, put e1 (fun xs n z => by rw [r2] at z; cases z) (fun z => by rw [r2] at z; cases z; simp at r3), r1, r2, r3, r⟩
    · rcases hbm with ⟨bm, ob, b1, b2, b3, b4, b5, b6⟩
      refine ⟨bm, ob, b1, b2, fun z => ?_, fun z => ?_, put b3 (fun xs n z => by rw [b6] at z; cases z) (fun z => by rw [b6] at z; cases z), b4, b5, b6⟩
      · obtain ⟨o, es, ep, e, d, _⟩ := hns
        rw [← z, b3] at e
        cases e
        rw [b6] at d
        cases d
      · rw [z, hP] at b3
        cases b3
        cases b6
    · obtain ⟨o, es, ep, e, d, _⟩ := hns
      rw [z, hP] at e
      cases e
      cases d
  have e0 : Env0 P w K mg (hidT s.heap H) callerA [] s H := ⟨rfl, hM, fun b o e => of_hidT e, Nat.le_of_eq (hidT_size _ _), trivial, fun b hb => (nomatch hb), hok, .of_eq hgen⟩
  have hr : Room 9 callerA := ⟨rfl, by decide, by decide⟩
  refine codeAny_mono ((F _ hKb (nsK hns) TB).run callerA [] s H ⟨[.ref a], []⟩ [.ref a] [.ref a] (fun v _ => v = .bl true) (fun _ _ _ => False) hr rfl e0 (hbind s (.ref a)) (.cons rfl .nil)
    ⟨a, ns, rfl, hS, hl, fun p hp => by rw [List.mem_singleton.mp hp]; exact TabS.nil tP, fun _ => rfl⟩) fun r s' h => ?_
  cases r with
  | error e => exact (show False from h).elim
  | ok fl =>
    cases fl with
    | next => exact False.elim h
    | brk => exact False.elim h
    | cont => exact False.elim h
    | ret u =>
      rcases h with ⟨v, H', os, bare, un, hok', r', q⟩
      obtain rfl : v = .bl true := q
      obtain rfl : u = .bool true := r'
      obtain ⟨more, hm⟩ := un.tbls Pt #[] tP
      have hP' : s'.heap.get? Pt = some { cls := .none, data := .fields (#[] ++ more) } := hok' Pt _ hm
      have key : ∀ b o, b ≠ Pt → s.heap.get? b = some o → s'.heap.get? b = some o := fun b o nb e => by
        cases hb : H b with
        | none => exact un.keep b o e hb (by intro z; exact (nomatch z)) (by simp)
        | some u =>
          by_cases h2 : b = a
          · subst h2
            rw [tA] at hb
            split at hb
            · rename_i hk
              rw [if_pos hk] at tA
              obtain ⟨e2, _⟩ := hok' b _ (un.frzs b _ _ tA)
              rw [ha] at e
              cases e
              exact e2
            · cases hb
          · rw [tO b nb h2] at hb
            cases hb
      refine (⟨rfl, ⟨fun b o e => ?_, fun b o e => ?_⟩, os, bare⟩)
      · by_cases hb : b = Pt
        · subst hb
          rw [hP] at e
          cases e
          exact .inr (.inl ⟨(hC.tab hP).isCodeTable, rfl, #[], more, rfl, hP'⟩)
        · exact .inl (key b o hb e)
      · by_cases hb : b = Pt
        · exact ⟨_, by rw [hb]; exact hP'⟩
        · exact ⟨o, key b o hb e⟩
end
/-- what is known at the head's heap -/
def LawAtG (l : PySem.W.OpenLaw) (w : World) (K : PySem.W.Frag) (mg : Str → Option Value) (fa : Addr) (h : Heap) : Prop :=
  ∃ (fd : FuncData) (c Pt : Addr), h.get? Pt = some { cls := .none, data := .fields #[] } ∧ K.lookup Pt = none ∧ PySem.W.CodeHd h c Pt ∧ (∀ (s : Shared) (u : Value), BindsTo s fd ⟨[u], []⟩ [("_law_script", u)]) ∧
    ∀ base : Heap, K.In base → base.Ns mainGlobals mg → TabB base mg c Pt → FnG l.prog w K mg base 9 fa fd ["_law_script"] (spLaw K Pt)
theorem walk_ofG {l : PySem.W.OpenLaw} {q : Program} {loose : List Str} {XP : (Str → Option Value) → Heap → Prop} {YP : World → Heap → Prop} {d : DefRec} {K : Params → PySem.W.Frag}
    (hn : l.most = some 63) (hdf : d.params.defaults = []) (hY : ∀ (w : World) (h : Heap), YP w h → (K w.params).In h)
    (F : ∀ (w : World) (mg : Str → Option Value) (fa : Addr) (h : Heap), YP w h → (K w.params).In h → h.Ns mainGlobals mg → mg d.name = some (.ref fa) → LawAtG l w (K w.params) mg fa h) :
    PySem.W.WalkO q loose XP YP l.row.toRowW d []
      (fun f vs => PySem.call f vs) := by
  refine (Att.attach_callB hn hdf fun w s₀ s₁ mg mb fa o pm cd doc a vs ns G Y ho hd hcd hmg hobj hints hlen hbits hg => ?_)
  have KX := hY w _ Y
  obtain ⟨fd, c, Pt, h1, h2, h3, h4, h5⟩ := F w mg fa _ Y KX G.T.g hmg
  exact law_callG KX G.T.g G.T.b G.T.builtins G.T.nolimit hg h1 h2 h3 G.T.bmain hobj hints hlen h5 h4
end Fs
/-! Flipsheets: what the top has written. -/
namespace Fs
open PySem L2 LamX PySem.Spec PyProof.Rows
/-- a def of the top, as it stands -/
def DefIn (K : PySem.W.Frag) (x : Str) (st : Stmt) : Prop := ∃ (f : Addr) (oc : Value) (od : Option Addr) (kV dc pm : Value) (an : Option Addr) (cd ct : Value) (sl : Array (Option Value)),
  PySem.W.nsIn K mainGlobals x = some (some (.ref f)) ∧ K.lookup f = some ⟨oc, od, .func (PySem.W.fnOf x x (defArgs st) (defBody st) (defScope st) .none kV dc pm an cd ct), sl⟩ ∧ PySem.W.codeIn K cd x = true ∧ PySem.W.keepIn K (.ref f) = true
/-- the same, its code object at c -/
def DefInC (K : PySem.W.Frag) (x : Str) (st : Stmt) (c : Addr) : Prop := ∃ (f : Addr) (oc : Value) (od : Option Addr) (kV dc pm : Value) (an : Option Addr) (ct : Value) (sl : Array (Option Value)),
  PySem.W.nsIn K mainGlobals x = some (some (.ref f)) ∧ K.lookup f = some ⟨oc, od, .func (PySem.W.fnOf x x (defArgs st) (defBody st) (defScope st) .none kV dc pm an (.ref c) ct), sl⟩ ∧ PySem.W.codeIn K (.ref c) x = true ∧ PySem.W.keepIn K (.ref f) = true
section
variable {K : PySem.W.Frag} {h : Heap} {mg : Str → Option Value} {x : Str} {st : Stmt}
theorem DefIn.df (X : K.In h) (G : h.Ns mainGlobals mg) (D : DefIn K x st) : ∃ f fd, Df K mg x st f fd := by
  obtain ⟨f, oc, od, kV, dc, pm, an, cd, ct, sl, a, l, c, k⟩ := D
  exact ⟨f, _, ⟨fun_mk l c k, PySem.W.mg_of X G a⟩⟩
theorem DefInC.df {c : Addr} (X : K.In h) (G : h.Ns mainGlobals mg) (D : DefInC K x st c) : ∃ f fd, mg x = some (.ref f) ∧ FunC K x x st f c fd := by
  obtain ⟨f, oc, od, kV, dc, pm, an, ct, sl, a, l, cc, k⟩ := D
  exact ⟨f, _, PySem.W.mg_of X G a, ⟨⟨oc, od, kV, dc, pm, an, ct, sl, rfl, l, cc⟩, k⟩⟩
end
theorem all_mk {l : PySem.W.OpenLaw} {w : World} {K : PySem.W.Frag} {h : Heap} {mg : Str → Option Value} {fa C fI CS CN CF c Pt : Addr} (X : K.In h) (G : h.Ns mainGlobals mg) (hfa : mg "law" = some (.ref fa))
    (hP : h.get? Pt = some { cls := .none, data := .fields #[] }) (nP : K.lookup Pt = none) (hC : PySem.W.CodeHd h c Pt) (B : Blt mg) (Bn : Bnds mg) (T : BadTxt l.prog K mg C fI) (HT : HeardTxt K mg C CS CN CF)
    (d6 : DefIn K "is_from" sIsFrom)
    (d10 : DefIn K "need_corners" sNeedC)
    (d11 : DefIn K "is_diagonal" sIsDiag)
    (d12 : DefIn K "are_crossing" sCross)
    (d13 : DefIn K "need_cutting" sNeedV)
    (d14 : DefIn K "are_joined" sJoin)
    (d15 : DefIn K "triangles_of" sTris)
    (d16 : DefIn K "flipped_cutting" sFlip)
    (d17 : DefIn K "nearer" sNear)
    (d18 : DefIn K "flips_apart" sApart)
    (d19 : DefIn K "flips_between" sBetw)
    (d21 : DefIn K "_law_mixed" sMix)
    (d22 : DefIn K "_law_begin" sBegin)
    (d23 : DefIn K "_law_draw" sDraw)
    (d24 : DefIn K "_law_of" sOf)
    (d25 : DefIn K "_law_diagonals" sLDiag)
    (d26 : DefIn K "_law_cross_so" sLCross)
    (d27 : DefIn K "_law_all_cuttings" sLAll)
    (d28 : DefIn K "_law_heard" sHeard)
    (d29 : DefIn K "_law_like" sLike)
    (d30 : DefIn K "_law_flipped_so" sLFlip)
    (d31 : DefIn K "_law_steps" sLSteps)
    (d32 : DefIn K "_law_row" sLRow)
    (d33 : DefIn K "_law_right" sRight)
    (d35 : DefIn K "law" sLaw)
    (d34 : DefInC K "_law_by_hand" sHand c) : LawAtG l w K mg fa h := by
  obtain ⟨f6, fd6, d6⟩ := d6.df X G
  obtain ⟨f10, fd10, d10⟩ := d10.df X G
  obtain ⟨f11, fd11, d11⟩ := d11.df X G
  obtain ⟨f12, fd12, d12⟩ := d12.df X G
  obtain ⟨f13, fd13, d13⟩ := d13.df X G
  obtain ⟨f14, fd14, d14⟩ := d14.df X G
  obtain ⟨f15, fd15, d15⟩ := d15.df X G
  obtain ⟨f16, fd16, d16⟩ := d16.df X G
  obtain ⟨f17, fd17, d17⟩ := d17.df X G
  obtain ⟨f18, fd18, d18⟩ := d18.df X G
  obtain ⟨f19, fd19, d19⟩ := d19.df X G
  obtain ⟨f21, fd21, d21⟩ := d21.df X G
  obtain ⟨f22, fd22, d22⟩ := d22.df X G
  obtain ⟨f23, fd23, d23⟩ := d23.df X G
  obtain ⟨f24, fd24, d24⟩ := d24.df X G
  obtain ⟨f25, fd25, d25⟩ := d25.df X G
  obtain ⟨f26, fd26, d26⟩ := d26.df X G
  obtain ⟨f27, fd27, d27⟩ := d27.df X G
  obtain ⟨f28, fd28, d28⟩ := d28.df X G
  obtain ⟨f29, fd29, d29⟩ := d29.df X G
  obtain ⟨f30, fd30, d30⟩ := d30.df X G
  obtain ⟨f31, fd31, d31⟩ := d31.df X G
  obtain ⟨f32, fd32, d32⟩ := d32.df X G
  obtain ⟨f33, fd33, d33⟩ := d33.df X G
  obtain ⟨f34, fd34, g34, d34⟩ := d34.df X G
  obtain ⟨f35, oc, od, kV, dc, pm, an, cd, ct, sl, a35, l35, c35, k35⟩ := d35
  have e := hfa.symm.trans (PySem.W.mg_of X G a35)
  cases e
  refine ⟨PySem.W.fnOf "law" "law" (defArgs sLaw) (defBody sLaw) (defScope sLaw) .none kV dc pm an cd ct, c, Pt, hP, nP, hC, fun s u => .of_eq rfl, fun base kb gb TB => ?_⟩
  have G6 : Has l.prog w K mg base CX0 1 "is_from" ["value", "low", "high"] spIsFrom := ok_is_from B d6
  have G10 := ok_needC Bn T G6 d10
  have G11 := ok_is_diag B G6 d11
  have G12 : Has l.prog w K mg base CX0 1 "are_crossing" ["one", "other"] spCross := ok_cross d12
  have G13 := ok_needV B T G11 G12 d13
  have G14 : Has l.prog w K mg base CX0 1 "are_joined" ["corners", "diagonals", "one", "other"] spJoin := ok_join d14
  have G15 := ok_tris B G14 d15
  have G16 := ok_flip B G15 d16
  have G17 := ok_near B G16 d17
  have G18 := ok_apart G10 G13 G17 d18
  have G19 := ok_betw G10 G13 G17 G16 d19
  have G21 : Has l.prog w K mg base CX0 1 "_law_mixed" ["_law_cell", "_law_k"] spMix := ok_mix B d21
  have G22 : Has l.prog w K mg base CX0 1 "_law_begin" ["_law_script"] (spBegin K) := ok_begin B d22
  have G23 := ok_draw B G21 d23
  have G24 := ok_of B G23 d24
  have G25 : Has l.prog w K mg base CX0 1 "_law_diagonals" ["_law_many_so"] spLDiag := ok_ldiag B d25
  have G26 : Has l.prog w K mg base CX0 1 "_law_cross_so" ["_law_one", "_law_other"] spLCross := ok_lcross B d26
  have G27 := ok_lall B G25 G26 d27
  have G29 : HasG l.prog w K mg base 1 "_law_like" ["_law_got", "_law_due"] (spLike K) := ok_like B d29
  have G30 := ok_lflip B G25 G26 d30
  have G31 := ok_lsteps G30 d31
  have G32 := ok_lrow B G30 d32
  have G33 := ok_right B G23 G24 G27 G31 G18 G19 G32 G29 d33
  have F34 := ok_hand B T HT TB G18 G19 G29 d28 d34
  have G34 : HasG l.prog w K mg base 8 "_law_by_hand" [] (spHand Pt) := ⟨f34, fd34, g34, d34.kp, F34, d34.fun.binds fun _ _ _ _ _ _ us hl => match us, hl with | [], _ => rfl⟩
  exact ok_law G22 G33 G34 (fun_mk (st := sLaw) l35 c35 k35)
end Fs
/-! Flipsheets: the facts of the top, as they are asked. -/
namespace Fs
open PySem PySem.W PyProof.Rows PySem.HandSPX
section
variable {K : Frag} {h : Heap} {mg : Str → Option Value} {x : Str} {st : Stmt}
theorem defIn_mk {f : Addr} {oc : Value} {od : Option Addr} {kV dc pm : Value} {an : Option Addr} {cd ct : Value} {sl : Array (Option Value)} (a : nsIn K mainGlobals x = some (some (.ref f)))
    (l : K.lookup f = some ⟨oc, od, .func (fnOf x x (L2.defArgs st) (L2.defBody st) (L2.defScope st) .none kV dc pm an cd ct), sl⟩) (c : codeIn K cd x = true) (k : keepIn K (.ref f) = true) : DefIn K x st := ⟨f, oc, od, kV, dc, pm, an, cd, ct, sl, a, l, c, k⟩
theorem defInC_mk {c f : Addr} {oc : Value} {od : Option Addr} {kV dc pm : Value} {an : Option Addr} {ct : Value} {sl : Array (Option Value)} (a : nsIn K mainGlobals x = some (some (.ref f)))
    (l : K.lookup f = some ⟨oc, od, .func (fnOf x x (L2.defArgs st) (L2.defBody st) (L2.defScope st) .none kV dc pm an (.ref c) ct), sl⟩) (cc : codeIn K (.ref c) x = true) (k : keepIn K (.ref f) = true) : DefInC K x st c := ⟨f, oc, od, kV, dc, pm, an, ct, sl, a, l, cc, k⟩
theorem bad_mk {P : Program} {C fI CF : Addr} (X : K.In h) (G : h.Ns mainGlobals mg) {nm q : Str} {N : Addr} {bs : List Value} {sn : List Str} {sub : List Value} {ab : Bool} {col : Option Bool} {dd : Option Addr} {k0 k1 k2 k3 k5 : Option Value}
    {oc : Value} {od : Option Addr} {doc pm : Value} {an : Option Addr} {cda cc : Addr} {ct : Value} {osl : Array (Option Value)} {ccl : Value} {cdd : Option Addr} {vs : Array Value} {ccs : Array (Option Value)} {file : Str} {tf : Tok} {cl : Value} {cld : Option Addr} {csl : Array (Option Value)}
    (a1 : nsIn K mainGlobals "BadParameter" = some (some (.ref C))) (a2 : nsIn K mainGlobals "super" = some none)
    (l1 : K.lookup C = some (excClassObj nm q C N bs [.ref CF, .type "ValueError", .type "Exception", .type "BaseException", .type "object"] true sn sub ab col dd k0 k1 k2 k3 k5 "ValueError.__new__"))
    (b0 : findIn K (.ref C) "__init__" = some (some (.ref fI))) (b1 : ks_superIn K C C "__init__" = some (some (.builtin "ValueError.__init__"))) (b2 : findIn K (.ref C) "__setattr__" = some (some (.builtin "object.__setattr__"))) (b3 : findIn K (.ref C) "__getattribute__" = some (some (.builtin "BaseException.__getattribute__"))) (b4 : findIn K (.ref C) "__getattr__" = some none)
    (b5 : findIn K (.ref C) "value" = some none) (b7 : typeIn K (.ref fI) = some (.type "function")) (b8 : keepIn K (.ref C) = true) (b9 : subIn K (.ref C) (.type "BaseException") = some true)
    (c1 : subIn K (.ref C) (.type "ValueError") = some true) (c2 : typeIn K (.ref C) = some (.type "type")) (c3 : hasDictIn K C = true) (c4 : mroIn K C (.ref C) = some true) (c5 : nsIn K cStatics "thirdparty.any" = some none) (c6 : (P.main.scope.names.lookup ("super" : Str)).isSome = false)
    (l2 : K.lookup fI = some ⟨oc, od, .func (ksFn "__init__" "BadParameter.__init__" (L2.defArgs sBadI) (L2.defBody sBadI) (L2.defScope sBadI) .none .none doc pm an (.ref cda) ct cc), osl⟩) (c7 : codeIn K (.ref cda) "BadParameter.__init__" = true)
    (l3 : K.lookup cda = some ⟨ccl, cdd, .fields vs, ccs⟩) (v3 : vs[2]? = some (.str file tf)) (w3 : ((P.main.file : Str) == file) = true) (l4 : K.lookup cc = some ⟨cl, cld, .cell (some (.ref C)), csl⟩) : BadTxt P K mg C fI :=
  { gC := mg_of X G a1, su := mg_none_of X G a2, cls := ⟨nm, q, N, bs, _, sn, sub, ab, col, dd, k0, k1, k2, k3, k5, l1, (by first | rfl | with_unfolding_all rfl | kernel_rfl)⟩, sup := b1, sa := b2, ga := b3, gg := b4, noN := b5, iC := b0, tC := b7, kC := b8, exC := b9, veC := c1, tyC := c2, hdC := c3, slf := c4, op := c5, top := c6,
    fn := ⟨oc, od, doc, pm, an, cda, cc, ct, osl, l2, c7, ⟨ccl, cdd, vs, ccs, file, tf, l3, v3, w3⟩, cl, cld, csl, l4⟩ }
theorem kit_ref {C D : Addr} {b : Bool} (hn : (Value.ref D == Value.ref C) = false) (hc : isClsIn K C = true) (ht : typeIn K (.ref C) = some (.type "type")) (h4 : subIn K (.ref D) (.ref C) = some b) : kitOne K (.ref D) (.ref C) = some b := by
  have e2 : ((clsIn K C).isSome && typeIn K (.ref C) == some (.type "type")) = true := by
    have hc' : (clsIn K C).isSome = true := hc
    rw [hc', ht] <;> rfl
  show (if (Value.ref D == Value.ref C) = true then some true else (if ((clsIn K C).isSome && typeIn K (.ref C) == some (.type "type")) = true then subIn K (.ref D) (.ref C) else none)) = some b
  rw [hn, if_neg Bool.false_ne_true, if_pos e2]
  exact h4
theorem heard_mk {C CS CN CF : Addr} (X : K.In h) (G : h.Ns mainGlobals mg) (a1 : nsIn K mainGlobals "BadSheet" = some (some (.ref CS))) (a2 : nsIn K mainGlobals "NoRow" = some (some (.ref CN))) (a3 : nsIn K mainGlobals "FlipError" = some (some (.ref CF)))
    (s1 : subIn K (.ref CS) (.type "BaseException") = some true) (s2 : hasDictIn K CS = true) (s3 : typeIn K (.ref CS) = some (.type "type")) (s4 : subIn K (.ref C) (.ref CS) = some false)
    (p1 : subIn K (.ref C) (.type "BaseException") = some true) (p2 : hasDictIn K C = true) (p3 : typeIn K (.ref C) = some (.type "type")) (p4 : subIn K (.ref C) (.ref C) = some true)
    (f1 : (Value.ref C == Value.ref CF) = false) (f2 : isClsIn K CF = true) (f3 : typeIn K (.ref CF) = some (.type "type")) (f4 : subIn K (.ref C) (.ref CF) = some true)
    (g1 : findIn K (.ref C) "__getattribute__" = some (some (.builtin "BaseException.__getattribute__"))) (g2 : findIn K (.ref C) "__getattr__" = some none) (g3 : findIn K (.ref C) "__class__" = some (some (.builtin "object.__class__")))
    (g4 : specialIn K (.builtin "object.__class__") "__get__" = some (some (.builtin "getset_descriptor.__get__"))) (g5 : takesIn K (.builtin "object.__class__") = some true) (g6 : mroIn K C (.type "object") = some true) : HeardTxt K mg C CS CN CF :=
  ⟨mg_of X G a1, mg_of X G a2, mg_of X G a3, exm_ref s1 s2 s3 s4, exm_ref p1 p2 p3 p4, kit_ref f1 f2 f3 f4, ⟨g1, g2, p1, p2, g3, g4, g5, g6⟩, ⟨g1, g2, p1, p2⟩⟩
end
end Fs
open PySem PySem.W PyProof.Rows in
set_option maxRecDepth 100000 in set_option maxHeartbeats 0 in
theorem PySem.Challenge.cw_flipsheets_k85_whole_fewest_flips_holds : PySem.Challenge.rw_flipsheets_k85_whole_fewest_flips.Holds := by
  w_on; o_law; k_head; (case hw => w_witness2)
  k_fill
  refine Fs.walk_ofG (l := PySem.Challenge.rw_flipsheets_k85_whole_fewest_flips) rfl rfl (fun w h Y => PySem.W.km_in_of Y) ?F
  case F =>
    intro w mg fa h Y KX G hmg
    have tabs := PySem.W.km_tabs_of Y
    refine' Fs.all_mk (Pt := 238) KX G hmg (tabs 238 (by simp)) ?nP ?hC ?B ?Bn ?T ?HT ?d6 ?d10 ?d11 ?d12 ?d13 ?d14 ?d15 ?d16 ?d17 ?d18 ?d19 ?d21 ?d22 ?d23 ?d24 ?d25 ?d26 ?d27 ?d28 ?d29 ?d30 ?d31 ?d32 ?d33 ?d35 ?d34
    (case d34 => refine' Fs.defInC_mk ?da ?dl ?dc ?dk; (case da => k_is); (case dl => k_is); (case dc => k_is); (case dk => k_is))
    (case nP => first | kernel_rfl | rfl)
    (case hC => exact PySem.W.codeHd_of_K KX (by first | kernel_rfl | rfl))
    (case B => exact ⟨PySem.W.mg_none_of KX G (by k_is), PySem.W.mg_none_of KX G (by k_is), PySem.W.mg_none_of KX G (by k_is), PySem.W.mg_none_of KX G (by k_is), PySem.W.mg_none_of KX G (by k_is), PySem.W.mg_none_of KX G (by k_is), PySem.W.mg_none_of KX G (by k_is), PySem.W.mg_none_of KX G (by k_is), PySem.W.mg_none_of KX G (by k_is), PySem.W.mg_none_of KX G (by k_is), PySem.W.mg_none_of KX G (by k_is), PySem.W.mg_none_of KX G (by k_is)⟩)
    (case Bn => exact ⟨⟨_, PySem.W.mg_of KX G (by k_is)⟩, ⟨_, PySem.W.mg_of KX G (by k_is)⟩⟩)
    (case T => refine' Fs.bad_mk KX G ?a1 ?a2 ?l1 ?b0 ?b1 ?b2 ?b3 ?b4 ?b5 ?b7 ?b8 ?b9 ?c1 ?c2 ?c3 ?c4 ?c5 ?c6 ?l2 ?c7 ?l3 ?v3 ?w3 ?l4; (case a1 => k_is); (case a2 => k_is); (case l1 => k_is); (case b0 => k_is); (case b1 => first | kernel_rfl | rfl); (case b2 => k_is); (case b3 => k_is); (case b4 => k_is); (case b5 => k_is); (case b7 => k_is); (case b8 => k_is); (case b9 => k_is); (case c1 => k_is); (case c2 => k_is); (case c3 => k_is); (case c4 => k_is); (case c5 => k_is); (case c6 => first | rfl | decide +kernel); (case l2 => k_is); (case c7 => k_is); (case l3 => k_is); (case v3 => rfl); (case w3 => first | rfl | decide +kernel); (case l4 => k_is))
    (case HT => refine' Fs.heard_mk KX G ?a1 ?a2 ?a3 ?s1 ?s2 ?s3 ?s4 ?p1 ?p2 ?p3 ?p4 ?f1 ?f2 ?f3 ?f4 ?g1 ?g2 ?g3 ?g4 ?g5 ?g6; (case a1 => k_is); (case a2 => k_is); (case a3 => k_is); (case s1 => k_is); (case s2 => k_is); (case s3 => k_is); (case s4 => k_is); (case p1 => k_is); (case p2 => k_is); (case p3 => k_is); (case p4 => k_is); (case f1 => first | rfl | decide); (case f2 => k_is); (case f3 => k_is); (case f4 => k_is); (case g1 => k_is); (case g2 => k_is); (case g3 => k_is); (case g4 => k_is); (case g5 => k_is); (case g6 => k_is))
    (case d6 => refine' Fs.defIn_mk ?da ?dl ?dc ?dk; (case da => k_is); (case dl => k_is); (case dc => k_is); (case dk => k_is))
    (case d10 => refine' Fs.defIn_mk ?da ?dl ?dc ?dk; (case da => k_is); (case dl => k_is); (case dc => k_is); (case dk => k_is))
    (case d11 => refine' Fs.defIn_mk ?da ?dl ?dc ?dk; (case da => k_is); (case dl => k_is); (case dc => k_is); (case dk => k_is))
    (case d12 => refine' Fs.defIn_mk ?da ?dl ?dc ?dk; (case da => k_is); (case dl => k_is); (case dc => k_is); (case dk => k_is))
    (case d13 => refine' Fs.defIn_mk ?da ?dl ?dc ?dk; (case da => k_is); (case dl => k_is); (case dc => k_is); (case dk => k_is))
    (case d14 => refine' Fs.defIn_mk ?da ?dl ?dc ?dk; (case da => k_is); (case dl => k_is); (case dc => k_is); (case dk => k_is))
    (case d15 => refine' Fs.defIn_mk ?da ?dl ?dc ?dk; (case da => k_is); (case dl => k_is); (case dc => k_is); (case dk => k_is))
    (case d16 => refine' Fs.defIn_mk ?da ?dl ?dc ?dk; (case da => k_is); (case dl => k_is); (case dc => k_is); (case dk => k_is))
    (case d17 => refine' Fs.defIn_mk ?da ?dl ?dc ?dk; (case da => k_is); (case dl => k_is); (case dc => k_is); (case dk => k_is))
    (case d18 => refine' Fs.defIn_mk ?da ?dl ?dc ?dk; (case da => k_is); (case dl => k_is); (case dc => k_is); (case dk => k_is))
    (case d19 => refine' Fs.defIn_mk ?da ?dl ?dc ?dk; (case da => k_is); (case dl => k_is); (case dc => k_is); (case dk => k_is))
    (case d21 => refine' Fs.defIn_mk ?da ?dl ?dc ?dk; (case da => k_is); (case dl => k_is); (case dc => k_is); (case dk => k_is))
    (case d22 => refine' Fs.defIn_mk ?da ?dl ?dc ?dk; (case da => k_is); (case dl => k_is); (case dc => k_is); (case dk => k_is))
    (case d23 => refine' Fs.defIn_mk ?da ?dl ?dc ?dk; (case da => k_is); (case dl => k_is); (case dc => k_is); (case dk => k_is))
    (case d24 => refine' Fs.defIn_mk ?da ?dl ?dc ?dk; (case da => k_is); (case dl => k_is); (case dc => k_is); (case dk => k_is))
    (case d25 => refine' Fs.defIn_mk ?da ?dl ?dc ?dk; (case da => k_is); (case dl => k_is); (case dc => k_is); (case dk => k_is))
    (case d26 => refine' Fs.defIn_mk ?da ?dl ?dc ?dk; (case da => k_is); (case dl => k_is); (case dc => k_is); (case dk => k_is))
    (case d27 => refine' Fs.defIn_mk ?da ?dl ?dc ?dk; (case da => k_is); (case dl => k_is); (case dc => k_is); (case dk => k_is))
    (case d28 => refine' Fs.defIn_mk ?da ?dl ?dc ?dk; (case da => k_is); (case dl => k_is); (case dc => k_is); (case dk => k_is))
    (case d29 => refine' Fs.defIn_mk ?da ?dl ?dc ?dk; (case da => k_is); (case dl => k_is); (case dc => k_is); (case dk => k_is))
    (case d30 => refine' Fs.defIn_mk ?da ?dl ?dc ?dk; (case da => k_is); (case dl => k_is); (case dc => k_is); (case dk => k_is))
    (case d31 => refine' Fs.defIn_mk ?da ?dl ?dc ?dk; (case da => k_is); (case dl => k_is); (case dc => k_is); (case dk => k_is))
    (case d32 => refine' Fs.defIn_mk ?da ?dl ?dc ?dk; (case da => k_is); (case dl => k_is); (case dc => k_is); (case dk => k_is))
    (case d33 => refine' Fs.defIn_mk ?da ?dl ?dc ?dk; (case da => k_is); (case dl => k_is); (case dc => k_is); (case dk => k_is))
    (case d35 => refine' Fs.defIn_mk ?da ?dl ?dc ?dk; (case da => k_is); (case dl => k_is); (case dc => k_is); (case dk => k_is))
